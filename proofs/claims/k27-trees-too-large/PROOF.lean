import PyProof.Rows.All
import Wide.All
import OpenK.AllK
import Wide.FinOn
import HandS.ForMost
import HandS.ForExc
import HandS.Wide
import HandS.EndBits
import HandS.IsInst
import HandS.ExcInit
import HandS.ExcIs
import HandS.RevTup
import HandS.MapObj
import HandS.MapJoin
import HandS.Rev
import HandS.DictComp
import HandS.Strs
import HandS.TupSets
import HandS.Zip
import HandS.RevRange
import HandS.SortKw
import HandS.TryOnly
import HandS.Style
import PyProof.ListNew
import HandS.Deep
import PyProof.MinMaxWalk
import PyProof.WalkInts
import PyProof.Rows.CallKwBuiltin
import PyProof.Rows.CallKw2
import KE.KMinBuiltin
import PyProof.Draws
import PyProof.EnumMake
import KE.GoesMore
import KE.GoesEnum
import HandS.TupAny
import PyProof.AutoSeq1
import HandS.More
import KE.KEqDict
import HandS.SortInts
import HandS.Dict
import KE.KDictSum
import HandS.DictTup
import KE.KDictWalk
import KE.KDictCopyH
import HandS.Iter
import HandS.Exc
import HandS.Sort
import KE.SortKeyHeap
import PyProof.Rows.StrMul
import HandS.SetKeys
import HandS.Finally
import HandS.Defaults
import HandS.CallSlots
import PyProof.Rows.SortShellAny
import KE.SortData
import HandS.Conv
import HandS.Comp
import KE.GoesComp
import KE.GoesRaise
import KE.KAsSuite
import HandS.Exc
import PySem.Challenge.RW_quiltlaw_k27_trees_too_large
set_option Elab.async false
set_option linter.all false
set_option genSizeOf false
set_option genInjectivity false
set_option maxRecDepth 100000
set_option maxHeartbeats 4000000
namespace RevS
open PySem PySem.Spec PyProof.Rows RT MpR
theorem norev_str : typeLookup (.type "str") "__reversed__" = pure none := by rw [typeLookup_type, builtinLookup_eq_fast]; kernel_rfl
theorem get_str : typeLookup (.type "str") "__getitem__" = pure (some (.builtin "str.__getitem__")) := by rw [typeLookup_type, builtinLookup_eq_fast]; kernel_rfl
theorem sub_str_dict : isSubtype (.type "str") (.type "dict") = pure false := by rw [isSubtype_type]; kernel_rfl
theorem nolen_rev : typeLookup (.type "reversed") "__len__" = pure none := by rw [typeLookup_type, builtinLookup_eq_fast]; kernel_rfl
theorem slot_hint : Slot "reversed" "__length_hint__" "reversed.__length_hint__" :=
  .of (owner := "reversed") (n := "__length_hint__") (by rw [typeLookup_type, builtinLookup_eq_fast]; kernel_rfl) (by decide +kernel) (by decide +kernel) (by decide +kernel)
    (by first | exact .inl (by decide +kernel) | exact .inr (by decide +kernel)) (by rw [isSubtype_type]; kernel_rfl)
theorem entry_hint : entryFor table "reversed.__length_hint__" = some Builtin.«reversed.__length_hint__» := entryFor_of_tree (by kernel_rfl)
theorem args_hint (a : Value) : argsOk "reversed.__length_hint__" ⟨[a], []⟩ := by
  unfold argsOk; rw [signature?_of (id := "reversed.__length_hint__") (n := ['_', '_', 't', 'n', 'i', 'h', '_', 'h', 't', 'g', 'n', 'e', 'l', '_', '_']) (o := ['d', 'e', 's', 'r', 'e', 'v', 'e', 'r']) (by kernel_rfl) owner_rt]; kernel_rfl
noncomputable def rsObj (x : Str) (t : Tok) (i : Int) : Obj := { cls := .type "reversed", data := .fields #[.str x t, rawInt i] }
noncomputable def IsRs (h : Heap) (a : Addr) (x : Str) (t : Tok) (i : Int) : Prop := ∃ o, h.get? a = some o ∧ o.cls = .type "reversed" ∧ o.data = .fields #[.str x t, rawInt i]
theorem IsRs.at {h h' : Heap} {a : Addr} {x : Str} {t : Tok} {i : Int} (q : IsRs h a x t i) (e : ∀ o, h.get? a = some o → h'.get? a = some o) : IsRs h' a x t i := let ⟨o, ho, r⟩ := q; ⟨o, e _ ho, r⟩
section
variable {prog : Program} {w : World} {A : Around} {E : Value → Shared → Prop} {s : Shared}
theorem IsRs.typeIs {a : Addr} {x : Str} {t : Tok} {i : Int} (q : IsRs s.heap a x t i) : s.TypeIs (.ref a) "reversed" := let ⟨o, ho, hc, _⟩ := q; ⟨o, ho, hc⟩
theorem code_reversed_str {x : Str} {t : Tok} {Q₁ : Value → Shared → Prop} (hz : x.length ≤ sizeLine)
    (h : Q₁ (.ref s.heap.objs.size) { s with heap := s.heap.push (rsObj x t ((x.length : Int) - 1)), toks := s.toks + 1 + 1 }) :
    codeAny (model prog w) A (.call (.builtin "reversed.__new__") ⟨[.type "reversed", .str x t], []⟩) (wants Q₁ E) s := by
  have hT : s.TypeIs (.str x t) "str" := typeIs_str _ _ _
  refine codeAny_of_tree ?_
  show wpAny _ A.in1 (do checkBuiltinCall "reversed.__new__" ⟨[.type "reversed", .str x t], []⟩; again (.builtin "reversed.__new__" ⟨[.type "reversed", .str x t], []⟩)) _ _ s
  refine wpAny_bind (wpAny_of_eq (F.newCall_reversed_1 _) (wpAny_pure ⟨plainId_quiet F.plain_reversed_new _, codeAny_builtin F.entry_reversed_new ?_⟩))
  rw [Around.under_plainId F.plain_reversed_new _]
  unfold Builtin.«reversed.__new__»
  refine wpAny_bind (wpAny_of_eq (newClass_reversed _) ?_)
  try dsimp only
  refine wpAny_bind (wpAny_of_eq (a := ()) (by first | rfl | kernel_rfl) ?_)
  try dsimp only
  refine wpAny_bind (wpAny_of_eq (a := ()) (by first | rfl | kernel_rfl) ?_)
  try dsimp only
  refine wpAny_bind (wpAny_specialOf hT norev_str ?_)
  try dsimp only
  refine wpAny_bind ?_
  wp_delta
  refine wpAny_bind (wpAny_isInstance (T := "str") (U := "dict") (b := false) hT sub_str_dict ?_)
  try dsimp only
  try rw [if_neg Bool.false_ne_true]
  try dsimp only
  refine wpAny_bind (wpAny_specialOf hT get_str ?_)
  try dsimp only
  try rw [if_pos (by decide +kernel)]
  refine wpAny_pure ?_
  try dsimp only
  try rw [if_neg (by decide)]
  try dsimp only
  refine wpAny_bind (P.len_str (by have := L2.line63; omega) ?_)
  refine wpAny_bind (wpAny_of_eq (a := some ((x.length : Nat) : Int)) rfl ?_)
  try dsimp only
  refine wpAny_bind ?_
  show wpAny _ _ (newObj (.type "reversed") (.fields #[.str x t, rawInt ((x.length : Int) - 1)])) _ _ _
  refine wpAny_newObj_type ?_
  exact wpAny_pure h
theorem call_reversed_str {x : Str} {t : Tok} {Q : Value → Shared → Prop} (hz : x.length ≤ sizeLine)
    (h : Q (.ref s.heap.objs.size) { s with heap := s.heap.push (rsObj x t ((x.length : Int) - 1)), toks := s.toks + 1 + 1 }) : wpAny (model prog w) A (call (.type "reversed") [.str x t]) Q E s := by
  refine callType_codes (Q₁ := fun obj s₁ => s₁.TypeIs obj "reversed" ∧ Q obj s₁) called_rt (F.typeCall_reversed_1 _) F.entry_object_init
    (code_reversed_str (A := A.in1) hz ⟨⟨_, Heap.get?_push_size _ rfl, rfl⟩, h⟩) fun obj s₁ h₁ => ?_
  exact ⟨h₁.1, F.args_object_init_2 obj _, object_init_meets called_rt.init.lookup called_rt.made (by decide) prog w A.in1 _ s₁ ⟨h₁.1, rfl, h₁.2⟩⟩
theorem next_rs_item {it : Addr} {x : Str} {t : Tok} {i c : Nat} {Q : Option Value → Shared → Prop} (hit : IsRs s.heap it x t (i : Int)) (hx : x.cps[i]? = some c) (hsz : x.length ≤ sizeLine)
    (hQ : ∀ h' tk, IsRs h' it x t ((i : Int) - 1) → Heap.SameBut it s.heap h' → Q (some (.str ⟨#[c]⟩ (s.toks + 1))) { s with heap := h', toks := tk }) : wpAny (model prog w) A (pyNext (.ref it)) Q E s := by
  obtain ⟨o, ho, hc, hd⟩ := id hit
  have hi : i < x.length := (Array.getElem?_eq_some_iff.mp hx).1
  have hT : s.TypeIs (.str x t) "str" := typeIs_str _ _ _
  have hn := L2.line63
  unfold pyNext
  refine wpAny_bind (wpAny_attempt (wpAny_callSpecial?_slot (name := Str.ofString "__next__") hit.typeIs slot_rt_next
    (wpAny_call_entry slot_rt_next hit.typeIs entry_rt_next ?_ (args_rt_next _))))
  unfold Builtin.«reversed.__next__»
  refine wpAny_bind (wpAny_of_eq (a := (Value.ref it, [])) rfl ?_)
  try dsimp only
  refine wpAny_bind (wpAny_field ho hd (x := .str x t) rfl ?_)
  try dsimp only
  refine wpAny_bind (wpAny_field ho hd (x := rawInt (i : Int)) rfl ?_)
  show wpAny _ _ (if (i : Int) < 0 then _ else _) _ _ s
  rw [if_neg (by omega)]
  try dsimp only
  refine wpAny_bind (wpAny_specialOf hT get_str ?_)
  try dsimp only
  try rw [if_neg (by decide)]
  try dsimp only
  refine wpAny_bind (wpAny_mkInt ?_)
  refine wpAny_bind (wpAny_attempt ?_)
  have fin : seqIndex? (i : Int) x.length = some i := seqIndex_of (by omega) (by omega)
  refine P.getItem_str (s := { s with toks := s.toks + 1 }) (c := c) (by
    have e1 : decide ((i : Int) < -(2 ^ 63 : Int)) = false := decide_eq_false (by omega)
    have e2 : decide ((i : Int) ≥ 2 ^ 63) = false := decide_eq_false (by omega)
    rw [e1, e2, Bool.or_false]) (by rw [fin]; simpa using hx) ?_
  try dsimp only
  refine wpAny_bind (wpAny_field (s := { s with toks := s.toks + 1 + 1 }) ho hd (x := rawInt (i : Int)) rfl ?_)
  try dsimp only
  refine wpAny_bind (wpAny_setField (s := { s with toks := s.toks + 1 + 1 }) ho hd (by simp) ?_)
  first
  | refine wpAny_pure ⟨_, rfl, wpAny_pure (hQ _ _ ?_ (Heap.SameBut.update ..))⟩
  | refine wpAny_bind (wpAny_pure (wpAny_pure ⟨_, rfl, wpAny_pure (hQ _ _ ?_ (Heap.SameBut.update ..))⟩))
  exact ⟨_, Heap.get?_update_self _ ho (Obj.isFreed_of_fields (Obj.data_mapFields hd _)), (Obj.cls_mapFields ..).trans hc, by
    rw [Obj.data_mapFields hd]; simp⟩
theorem next_rs_end {it : Addr} {x : Str} {t : Tok} {Q : Option Value → Shared → Prop} (hh : A.handled = none) (hit : IsRs s.heap it x t (-1))
    (hQ : ∀ h', Heap.ExtBut it s.heap h' → Q none { s with heap := h' }) : wpAny (model prog w) A (pyNext (.ref it)) Q E s := by
  obtain ⟨o, ho, hc, hd⟩ := id hit
  unfold pyNext
  refine wpAny_bind (wpAny_attempt (wpAny_callSpecial?_slot (name := Str.ofString "__next__") hit.typeIs slot_rt_next
    (wpAny_call_entry slot_rt_next hit.typeIs entry_rt_next ?_ (args_rt_next _))))
  unfold Builtin.«reversed.__next__»
  refine wpAny_bind (wpAny_of_eq (a := (Value.ref it, [])) rfl ?_)
  try dsimp only
  refine wpAny_bind (wpAny_field ho hd (x := .str x t) rfl ?_)
  try dsimp only
  refine wpAny_bind (wpAny_field ho hd (x := rawInt (-1)) rfl ?_)
  show wpAny _ _ (if (-1 : Int) < 0 then _ else _) _ _ s
  rw [if_pos (by decide)]
  try dsimp only
  refine wpAny_bind (wpAny_rule ?_)
  refine wpAny_bind ?_
  wp_delta
  refine wpAny_bind (wpAny_setField ho hd (by simp) ?_)
  have ho2 := Heap.get?_update_self (Obj.mapFields (·.setIfInBounds 1 (rawInt (-1)))) ho (Obj.isFreed_of_fields (Obj.data_mapFields hd _))
  refine wpAny_setField (s := { s with heap := s.heap.update it (Obj.mapFields (·.setIfInBounds 1 (rawInt (-1)))) }) ho2 (Obj.data_mapFields hd _) (by simp) ?_
  try dsimp only
  first
  | show wpAny _ _ (newExc (.type "StopIteration") [] >>= _) _ _ _
  | (refine wpAny_bind ?_; show wpAny _ _ (newExc (.type "StopIteration") [] >>= _) _ _ _)
  | (refine wpAny_bind ?_; wp_delta; show wpAny _ _ (newExc (.type "StopIteration") [] >>= _) _ _ _)
  refine wpAny_bind ?_
  simp only [newExc, newTuple]
  refine wpAny_bind (wpAny_newObj_type ?_ (by size_fits))
  refine wpAny_bind (m := firstArgMember _ _) (wpAny_of_eq (a := Value.none) (by first | rfl | (simp only [firstArgMember]; rfl)) ?_)
  refine wpAny_newObj_type ?_ (by size_fits)
  simp only [raiseNew]
  refine wpAny_bind (wpAny_handled ?_)
  first | rw [show A.in1.handled = none from hh] | rw [hh]
  refine wpAny_bind (wpAny_pure (wpAny_throw ?_))
  refine wpAny_bind (wpAny_isInstance (T := "StopIteration") (b := true) ⟨_, Heap.get?_push_size _ rfl, rfl⟩ isSubtype_stop ?_)
  refine wpAny_pure (hQ _ ?_)
  refine ((?_ : Heap.ExtBut it s.heap _).push _).push _
  exact fun b ob hb e => (Heap.get?_update_other _ _ (Ne.symm hb)).trans ((Heap.get?_update_other _ _ (Ne.symm hb)).trans e)
theorem iter_rs {it : Addr} {x : Str} {t : Tok} {i : Int} {Q : Value → Shared → Prop} (hit : IsRs s.heap it x t i) (h : Q (.ref it) s) : wpAny (model prog w) A (pyIter (.ref it)) Q E s := by
  refine wpAny_pyIter_slot hit.typeIs slot_rt_iter (wpAny_call_entry slot_rt_iter hit.typeIs entry_rt_iter ?_ (args_rt_iter _))
  show wpAny _ _ (ret (.ref it)) _ _ s
  exact wpAny_pure ⟨_, rfl, "reversed", _, hit.typeIs, slot_rt_next.lookup, h⟩
end
theorem walks_rs {prog : Program} {w : World} {A : Around} (hh : A.handled = none) (I : Addr) (x : Str) (t : Tok) (hsz : x.length ≤ sizeLine) :
    Walks prog w A I [I] [I] x.length (fun i v => ∃ c tk, x.cps[x.length - 1 - i]? = some c ∧ v = .str ⟨#[c]⟩ tk) (fun i h => i ≤ x.length ∧ IsRs h I x t ((x.length : Int) - 1 - (i : Int))) where
  sub := fun b hb => hb
  frame := fun _ _ _ q hk => ⟨q.1, q.2.at fun o e => hk I (by simp) o e⟩
  item := fun i s Q E hi q hQ => by
    have e : (x.length : Int) - 1 - (i : Int) = ((x.length - 1 - i : Nat) : Int) := by omega
    have hit := q.2
    rw [e] at hit
    have hlt : x.length - 1 - i < x.cps.size := by show x.length - 1 - i < x.length; omega
    have hx : x.cps[x.length - 1 - i]? = some (x.cps[x.length - 1 - i]'hlt) := Array.getElem?_eq_getElem hlt
    refine next_rs_item hit hx hsz fun h' tk hit' hs' => ?_
    have e2 : ((x.length - 1 - i : Nat) : Int) - 1 = (x.length : Int) - 1 - ((i + 1 : Nat) : Int) := by omega
    rw [e2] at hit'
    exact hQ _ h' tk ⟨_, _, hx, rfl⟩ ⟨hi, hit'⟩ fun b o hb eo => hs'.extBut b o (fun h => hb (by simp [h])) eo
  done := fun s Q E q hQ => by
    have e : (x.length : Int) - 1 - (x.length : Int) = -1 := by omega
    have hit := q.2
    rw [e] at hit
    exact next_rs_end hh hit fun h' he' => hQ h' s.toks fun b o hb eo => he' b o (fun h => hb (by simp [h])) eo
  self := fun _ _ _ _ q hQ => iter_rs q.2 hQ
section
variable {prog : Program} {w : World} {A : Around} {E : Value → Shared → Prop} {s : Shared}
theorem call_hint {it : Addr} {x : Str} {t : Tok} {Q : Value → Shared → Prop} (hit : IsRs s.heap it x t ((x.length : Int) - 1)) (hz : x.length ≤ sizeLine)
    (h : ∀ tk k, s.toks ≤ k → Q (.int x.length tk) { s with toks := k }) : wpAny (model prog w) A (call (.builtin "reversed.__length_hint__") [.ref it]) Q E s := by
  obtain ⟨o, ho, hc, hd⟩ := id hit
  refine wpAny_call_entry slot_hint hit.typeIs entry_hint ?_ (args_hint _)
  unfold Builtin.«reversed.__length_hint__»
  refine wpAny_bind (wpAny_of_eq (a := Value.ref it) rfl ?_)
  try dsimp only
  refine wpAny_bind (wpAny_field ho hd (x := .str x t) rfl ?_)
  try dsimp only
  rw [if_neg (by intro q; cases q)]
  try dsimp only
  refine wpAny_bind (P.len_str (by have := L2.line63; omega) ?_)
  refine wpAny_bind (wpAny_of_eq (a := some ((x.length : Nat) : Int)) rfl ?_)
  try dsimp only
  refine wpAny_bind (wpAny_field (s := { s with toks := s.toks + 1 + 1 }) ho hd (x := rawInt ((x.length : Int) - 1)) rfl ?_)
  try dsimp only
  have e : (x.length : Int) - 1 + 1 = x.length := by omega
  show wpAny _ _ (if (x.length : Int) < (x.length : Int) - 1 + 1 then _ else _) _ _ _
  rw [if_neg (by omega), e]
  refine wpAny_bind (wpAny_mkInt ?_)
  exact wpAny_pure ⟨_, rfl, h _ _ (by show s.toks ≤ s.toks + 1 + 1 + 1; omega)⟩
end
section
variable {prog : Program} {w : World} {A : Around} {E : Value → Shared → Prop} {s : Shared}
theorem collect_rs {I : Addr} {x : Str} {t : Tok} {Q : List Value → Shared → Prop} (hh : A.handled = none) (hz : x.length ≤ sizeLine) (hit : IsRs s.heap I x t ((x.length : Int) - 1))
    (hQ : ∀ s' acc, Moved [I] (fun a b => b = a) s s' → ItemsOf (fun i v => ∃ c tk, x.cps[x.length - 1 - i]? = some c ∧ v = .str ⟨#[c]⟩ tk) acc x.length → Q acc.toList s') : wpAny (model prog w) A (collect (.ref I)) Q E s := by
  have W := (walks_rs (prog := prog) (w := w) (A := A.in1) hh I x t hz).toS
  have hst : 0 ≤ x.length ∧ IsRs s.heap I x t ((x.length : Int) - 1 - ((0 : Nat) : Int)) := ⟨Nat.zero_le _, by rw [show ((x.length : Int) - 1 - ((0 : Nat) : Int)) = (x.length : Int) - 1 by omega]; exact hit⟩
  obtain ⟨oi, hoi, _⟩ := id hit
  have hSI : s.heap.objs.size ≠ I := Nat.ne_of_gt (Heap.lt_size hoi)
  have hSf : s.heap.objs.size ∉ [I] := by simp only [List.mem_singleton]; exact hSI
  unfold collect
  refine wpAny_bind (wpAny_runValue (codeAny_builtin F.entry_proto_collect ?_))
  rw [Around.under_plainId F.plain_proto_collect _]
  show wpAny _ A.in1 (newList [] >>= fun l => again (.builtin "list.__iadd__" ⟨[l, .ref I], []⟩)) _ _ s
  refine wpAny_bind (wpAny_newObj_type ?_)
  refine wpAny_pure ⟨plainId_quiet F.plain_list_iadd _, codeAny_builtin F.entry_list_iadd ?_⟩
  rw [Around.under_plainId F.plain_list_iadd _]
  have hit₁ : IsRs (s.heap.push { cls := .type "list", data := .seq ([] : List Value).toArray }) I x t ((x.length : Int) - 1) := hit.at fun o e => Heap.get?_push_of_some _ e
  have hT : ({ s with heap := s.heap.push { cls := .type "list", data := .seq ([] : List Value).toArray } } : Shared).TypeIs (.ref I) "reversed" := IsRs.typeIs (s := { s with heap := s.heap.push { cls := .type "list", data := .seq ([] : List Value).toArray } }) hit₁
  have hst₁ := W.frame 0 s (s.heap.push { cls := .type "list", data := .seq ([] : List Value).toArray }) s.toks hst (Nat.le_refl _) fun b _ o e => Heap.get?_push_of_some _ e
  show wpAny _ A.in1 (Builtin.List.listExtendWith (.ref s.heap.objs.size) (.ref I) (.ref s.heap.objs.size)) _ _ _
  unfold Builtin.List.listExtendWith
  refine wpAny_bind (wpAny_typeOf hT ?_)
  have h1 : Builtin.List.listSameRef (.ref s.heap.objs.size) (.ref I) = false := by simp [Builtin.List.listSameRef, hSI]
  have h2 : (Value.type "reversed" == Value.type "list") = false := by decide
  have h3 : (Value.type "reversed" == Value.type "tuple") = false := by decide
  simp only [h1, h2, h3, Bool.or_false, Bool.false_eq_true, if_false]
  refine wpAny_bind (W.self 0 _ _ _ hst₁ ?_)
  refine wpAny_bind (wpAny_holding ?_)
  unfold Builtin.List.listLengthHint
  refine wpAny_bind (wpAny_specialOf hT nolen_rev ?_)
  show wpAny _ A.in1 (specialOf (Value.ref I) (Str.ofString "__length_hint__") >>= _) _ _ _
  refine wpAny_bind (wpAny_specialOf hT slot_hint.lookup ?_)
  generalize hid : ("reversed.__length_hint__" : String) = id0
  wp_delta
  rw [show splitId id0 = some ("reversed", "__length_hint__") from by subst hid; decide +kernel]
  subst hid
  refine wpAny_bind (wpAny_isInstance (b := true) hT F.sub_reversed_self ?_)
  simp only [Bool.not_true, Bool.false_eq_true, if_false]
  rw [if_neg (by decide +kernel)]
  refine wpAny_bind (wpAny_rule ?_)
  refine wpAny_bind (wpAny_of_eq (slot_hint.bind _) ?_)
  try dsimp only
  refine wpAny_bind (wpAny_attempt (call_hint (s := { s with heap := s.heap.push { cls := .type "list", data := .seq ([] : List Value).toArray } }) hit₁ hz fun tk k hk => ?_))
  try dsimp only
  have hn63 := L2.line63
  have e0 : ((x.length : Nat) : Int) ≥ 0 := by omega
  have hfi : Builtin.List.listFitsIndex ((x.length : Nat) : Int) = true := by
    unfold Builtin.List.listFitsIndex
    rw [decide_eq_true (by omega), decide_eq_true (by omega)]; rfl
  have hlong : Builtin.List.listTooLong (((x.length : Nat) : Int)).toNat = false := L2.notLongL (by simpa using hz)
  have hm : asInt? (Value.int ((x.length : Nat) : Int) tk) = pure (some ((x.length : Nat) : Int)) := by simp only [asInt?]
  rw [hm]
  rw [pure_bind]
  try dsimp only
  rw [hfi, if_neg (by decide), if_neg (show ¬ ((x.length : Nat) : Int) < 0 by omega), hlong, if_neg (by decide)]
  refine wpAny_pure ?_
  have hS₁ : (s.heap.push { cls := .type "list", data := .seq ([] : List Value).toArray }).get? s.heap.objs.size = some { cls := .type "list", data := .seq ([] : List Value).toArray } := Heap.get?_push_size _ rfl
  have hS0 : ({ s with heap := s.heap.push { cls := .type "list", data := .seq ([] : List Value).toArray }, toks := k } : Shared).heap.get? s.heap.objs.size = some { cls := .type "list", data := .seq ([] : List Value).toArray } := hS₁
  by_cases hz0 : x.length = 0
  · rw [hz0]
    rw [if_neg (by decide +kernel)]
    refine wpAny_pure ⟨plainId_quiet F.plain_extend_loop _, codeAny_extend_loopS W hz _ hSf _ x.length 0 _ _ _ rfl (Nat.zero_le _) ⟨Nat.zero_le _, by rw [show ((x.length : Int) - 1 - ((0 : Nat) : Int)) = (x.length : Int) - 1 by omega]; exact hit₁⟩ hS0 (ItemsOf.nil _) fun s' acc' c' hm hS' hacc => ?_⟩
    show wpAny _ A (load s.heap.objs.size >>= _) _ _ s'
    refine wpAny_bind (wpAny_load hS' ?_)
    refine wpAny_pure (hQ s' acc' ?_ hacc)
    refine ⟨fun b o hb e => ?_, hm.gens, hm.drawn, hm.os, ?_⟩
    · refine hm.heap b o (fun hmem => ?_) (Heap.get?_push_of_some _ e)
      rcases List.mem_cons.mp hmem with e' | hmem
      · exact absurd (Heap.lt_size e) (by rw [e']; exact Nat.lt_irrefl _)
      · exact hb hmem
    · exact Nat.le_trans hk hm.toks
  · rw [if_pos (by
      have : (((x.length : Nat) : Int) != 0) = true := by
        rw [bne_iff_ne]; omega
      rw [this]; rfl)]
    refine wpAny_bind (wpAny_rule ?_)
    refine wpAny_bind ?_
    show wpAny _ A.in1 (updateSeq s.heap.objs.size (·.push .none) >>= fun _ => updateSeq s.heap.objs.size (·.pop)) _ _ _
    refine wpAny_bind (wpAny_updateSeq hS0 rfl ?_ (Nat.zero_le _) (Nat.succ_le_succ (Nat.zero_le _)))
    have hS₂ := Heap.get?_update_self (Obj.mapSeq (·.push Value.none)) hS₁ rfl
    refine wpAny_updateSeq hS₂ rfl ?_ (by show 1 ≤ sizeLine; decide) (Nat.zero_le _)
    have hS₃ := Heap.get?_update_self (Obj.mapSeq (·.pop)) hS₂ rfl
    have oth : ∀ b o, b ≠ s.heap.objs.size → (s.heap.push { cls := .type "list", data := .seq ([] : List Value).toArray }).get? b = some o →
        (((s.heap.push { cls := .type "list", data := .seq ([] : List Value).toArray }).update s.heap.objs.size (Obj.mapSeq (·.push Value.none))).update s.heap.objs.size (Obj.mapSeq (·.pop))).get? b = some o :=
      fun b o hb e => (Heap.get?_update_other _ _ (Ne.symm hb)).trans ((Heap.get?_update_other _ _ (Ne.symm hb)).trans e)
    have hit3 := hit₁.at fun o e => oth I o (Ne.symm hSI) e
    refine wpAny_pure ⟨plainId_quiet F.plain_extend_loop _, codeAny_extend_loopS W hz _ hSf _ x.length 0 _ _ _ rfl (Nat.zero_le _) ⟨Nat.zero_le _, by rw [show ((x.length : Int) - 1 - ((0 : Nat) : Int)) = (x.length : Int) - 1 by omega]; exact hit3⟩ hS₃ (ItemsOf.nil _) fun s' acc' c' hm hS' hacc => ?_⟩
    show wpAny _ A (load s.heap.objs.size >>= _) _ _ s'
    refine wpAny_bind (wpAny_load hS' ?_)
    refine wpAny_pure (hQ s' acc' ?_ hacc)
    refine ⟨fun b o hb e => ?_, hm.gens, hm.drawn, hm.os, ?_⟩
    · have hbs : b ≠ s.heap.objs.size := Nat.ne_of_lt (Heap.lt_size e)
      refine hm.heap b o (fun hmem => ?_) (oth b o hbs (Heap.get?_push_of_some _ e))
      rcases List.mem_cons.mp hmem with e' | hmem
      · exact hbs e'
      · exact hb hmem
    · exact Nat.le_trans hk hm.toks
end
noncomputable def one (c : Nat) : Str := ⟨#[c]⟩
theorem strs_rs {x : Str} {acc : Array Value} (h : ItemsOf (fun i v => ∃ c tk, x.cps[x.length - 1 - i]? = some c ∧ v = .str ⟨#[c]⟩ tk) acc x.length) : StrsAre acc.toList (x.cps.toList.reverse.map one) := by
  obtain ⟨h1, h2⟩ := h
  have hz : acc.toList.length = (x.cps.toList.reverse.map one).length := by simp [h1, Str.length]
  have key : ∀ (i : Nat) (v : Value), acc.toList[i]? = some v → ∃ (y : Str) (t : Tok), (x.cps.toList.reverse.map one)[i]? = some y ∧ v = .str y t := by
    intro i v hv
    have hv' : acc[i]? = some v := by simpa using hv
    have hi : i < x.length := by
      have h3 := (Array.getElem?_eq_some_iff.mp hv').1
      omega
    obtain ⟨c, tk, hc, rfl⟩ := h2 i v hv'
    refine ⟨⟨#[c]⟩, tk, ?_, rfl⟩
    have hl : x.cps.toList.length = x.length := by simp [Str.length]
    rw [List.getElem?_map, List.getElem?_reverse (by omega), hl, Array.getElem?_toList, hc]
    rfl
  generalize x.cps.toList.reverse.map one = ys at hz key
  generalize acc.toList = L at hz key
  clear h1 h2
  induction L generalizing ys with
  | nil =>
    cases ys with
    | nil => exact .nil
    | cons y r => simp at hz
  | cons v L ih =>
    cases ys with
    | nil => simp at hz
    | cons y ys =>
      obtain ⟨y', t, hy, rfl⟩ := key 0 v rfl
      have ey : y = y' := Option.some.inj hy
      subst ey
      exact .cons y t (ih ys (by simpa using hz) fun i v' hv => key (i + 1) v' (by simpa using hv))
section
variable {prog : Program} {w : World} {A : Around} {E : Value → Shared → Prop} {s : Shared}
theorem join_rs {I : Addr} {x a : Str} {t u : Tok} {Q : Value → Shared → Prop} (hh : A.handled = none) (hz : x.length ≤ sizeLine) (hit : IsRs s.heap I x t ((x.length : Int) - 1))
    (hok : x.length + x.length * a.length ≤ 16777216)
    (hq : ∀ s', Moved [I] (fun a b => b = a) s s' → ∀ t' k, Q (.str (Txt.join a (x.cps.toList.reverse.map one)) t') { s' with toks := k }) :
    wpAny (model prog w) A (call (.builtin "str.join") [.str a u, .ref I]) Q E s := by
  have hT : s.TypeIs (.ref I) "reversed" := hit.typeIs
  have hl : x.cps.toList.length = x.length := by simp [Str.length]
  have hok2 : ((x.cps.toList.reverse.map one).map (·.length)).sum + (x.cps.toList.reverse.map one).length * a.length ≤ 16777216 := by
    have e1 : ((x.cps.toList.reverse.map one).map (·.length)).sum = x.length := by
      rw [List.map_map, show ((fun y : Str => y.length) ∘ one) = fun _ => 1 from rfl]
      rw [List.map_const', List.sum_replicate_nat]
      simp [Str.length]
    rw [e1, List.length_map, List.length_reverse, hl]
    exact hok
  refine wpAny_call (codeAny_call_builtin F.slot_str_join.plain F.entry_str_join (F.slot_str_join.check _ _ _ _ _ _ _ _ (typeIs_str _ _ _) (F.args_str_join_2 _ _) ?_))
  rw [join_tree_other]
  refine wpAny_bind (wpAny_typeOf hT ?_)
  show wpAny _ A.in1 ((pyIter (.ref I)).tryCatch _ >>= fun it => collect it >>= fun items => joinTail a items) _ _ s
  refine wpAny_bind (wpAny_tryCatch (iter_rs hit ?_))
  refine wpAny_bind (collect_rs (A := A.in1) hh hz hit fun s' acc hm hacc => ?_)
  obtain ⟨l, hl2, ht⟩ := strsAre_values (strs_rs hacc)
  rw [hl2]
  rw [← ht] at hok2 hq
  have hok' := joinOk_of hok2
  unfold JoinOk at hok'
  rw [Bool.not_eq_true'] at hok'
  have g : Gives (joinTail a (strValues l)) (joinMade a l) := by
    have g0 := gives_joinTail a l hok'
    cases l with
    | nil => exact g0
    | cons p r => cases r with
      | nil => exact g0
      | cons q r' => exact g0
  exact g prog w A (wants Q E) s' (post_join l ⟨joinFit_length hok', hq s' hm⟩)
end
end RevS
namespace L2
open PySem PySem.Spec PyProof.Rows
noncomputable def tJoinRev (to te : TE) : TE := fun σ H Q => to σ H fun x H1 => (∃ a, x = .str a) ∧ te σ H1 fun v H2 => ∃ (a z : Str), x = .str a ∧ v = .str z ∧ z.length ≤ sizeLine ∧ z.length + z.length * a.length ≤ 16777216 ∧
  Q (.str (Txt.join a (z.cps.toList.reverse.map RevS.one))) H2
theorem pe_joinRev {X : Cx} {o e : Expr} {to te : TE} {apos pos p pos2 : Pos} (hc : X.calm = true) (ho : PE X o to) (hg : Gl X "reversed") (hm : X.mg "reversed" = none) (he : PE X e te)
    (hs1 : starEach [.Call (.Name "reversed" p) [e] [] pos2] X.env = [(false, eval (.Call (.Name "reversed" p) [e] [] pos2) X.env)] := by rfl)
    (hs : starEach [e] X.env = (false, eval e X.env) :: starEach [] X.env := by rfl)
    (hbase : attributeBase o "join" X.env (eval o X.env) = eval o X.env := by rfl) (hline : (apos.endLine == pos.line) = true := by rfl) :
    PE X (.Call (.Attribute o "join" apos) [.Call (.Name "reversed" p) [e] [] pos2] [] pos) (tJoinRev to te) := by
  refine ⟨fun pins s σ H Q I h => ?_⟩
  refine PySem.Call_method1 hbase hs1 hline (thn (ho.run pins s σ H _ I h) fun v s1 ⟨x, H1, I1, r1, q1⟩ => ?_)
  obtain ⟨⟨a, rfl⟩, q1⟩ := q1
  obtain ⟨t, rfl⟩ := _root_.id r1
  refine ⟨"str", _, F.plainAttrs_str, F.slot_str_join, F.type_str_join, typeIs_str _ _ _, (fun _ e => nomatch e), Calls.callWith_builtin rfl (Calls.evalArgs_plain (Calls.spliced_cons ?_))⟩
  refine Call_ (ld_blt I1 hg hm PyProof.Rows.boot_reversed (PyProof.Rows.callWith_type1 (args_cons (thn (he.run pins s1 σ H1 _ I1 q1) fun u s2 ⟨v, H2, I2, r2, q2⟩ => args_nil ?_) hs) hs rfl))
  obtain ⟨a', z, ea, ev, hz, hk, q⟩ := q2
  cases ea
  subst ev
  obtain ⟨t2, rfl⟩ := _root_.id r2
  refine RevS.call_reversed_str hz (Calls.spliced_nil ?_)
  have hit : RevS.IsRs (s2.heap.push (RevS.rsObj z t2 ((z.length : Int) - 1))) s2.heap.objs.size z t2 ((z.length : Int) - 1) := ⟨_, Heap.get?_push_size _ rfl, rfl, rfl⟩
  refine RevS.join_rs (s := { s2 with heap := s2.heap.push (RevS.rsObj z t2 ((z.length : Int) - 1)), toks := s2.toks + 1 + 1 }) (I2.ok.hd hc) hz hit hk fun s' hm' t' k => ?_
  have kp : ∀ b o, s2.heap.get? b = some o → s'.heap.get? b = some o := fun b o e => hm'.heap b o (by
    simp only [List.mem_singleton]
    exact Nat.ne_of_lt (Heap.lt_size e)) (Heap.get?_push_of_some _ e)
  rw [Moved.eq_with hm']
  exact ⟨.str _, H2, I2.kept (t' := k) kp, ⟨t', rfl⟩, q⟩
end L2
namespace SetS
open PySem PySem.Spec PyProof.Rows
noncomputable def cnt (xs : List Str) : Nat → Nat
  | 0 => 0
  | i + 1 => if (xs.take i).any (· == xs.getD i Str.empty) = true then cnt xs i else cnt xs i + 1
theorem cnt_le (xs : List Str) : ∀ i, cnt xs i ≤ i
  | 0 => Nat.le_refl _
  | i + 1 => by
    have := cnt_le xs i
    unfold cnt
    split <;> omega
noncomputable abbrev nude (b : Bool) : Obj := ⟨.type "set", none, .set #[] 0 (.fresh 0 0 b), #[]⟩
section
variable {prog : Program} {w : World} {A : Around} {E : Value → Shared → Prop}
noncomputable def Told (g : Program) (w : World) (a : Addr) (xs : List Str) (i : Nat) (h : Heap) : Prop := h.SetOf (strKind g w) a (fun z => (xs.take i).any (· == z)) (cnt xs i)
theorem Told.keep {a : Addr} {xs : List Str} {i : Nat} {h h' : Heap} (T : Told prog w a xs i h) (k : ∀ o, h.get? a = some o → h'.get? a = some o) : Told prog w a xs i h' := by
  obtain ⟨o, es, ep, tb, at', more⟩ := T
  exact ⟨o, es, ep, tb, k o at', more⟩
theorem told_next {a : Addr} {xs : List Str} {i : Nat} {h : Heap} (hi : i < xs.length)
    (T : h.SetOf (strKind prog w) a (fun z => (xs.take i).any (· == z) || decide (z = xs.getD i Str.empty)) (if (xs.take i).any (· == xs.getD i Str.empty) = true then cnt xs i else cnt xs i + 1)) : Told prog w a xs (i + 1) h := by
  refine SetOf_congr T (fun z => ?_) rfl
  have e : xs.take (i + 1) = xs.take i ++ [xs.getD i Str.empty] := by
    rw [List.take_succ, List.getElem?_eq_getElem hi, List.getD_eq_getElem?_getD, List.getElem?_eq_getElem hi]
    rfl
  rw [e, List.any_append]
  congr 1
  by_cases q : z = xs.getD i Str.empty
  · rw [decide_eq_true q, q]; simp
  · rw [decide_eq_false q]
    have : (xs.getD i Str.empty == z) = false := beq_eq_false_iff_ne.mpr fun z' => q z'.symm
    rw [List.any_cons, this]
    rfl
theorem add_str {a : Addr} {xs : List Str} {i : Nat} {u : Tok} {s : Shared} {Q : Bool → Shared → Prop} (hi : i < xs.length) (room : i + 1 < scanBound) (T : Told prog w a xs i s.heap)
    (q : ∀ h' b, Heap.SameBut a s.heap h' → Told prog w a xs (i + 1) h' → Q b ⟨h', s.gens, s.drawn, s.toks + 1, s.os⟩) : wpAny (model prog w) A (setAdd a (.str (xs.getD i Str.empty) u)) Q E s := by
  have fits := Nat.lt_of_le_of_lt (Nat.succ_le_succ (cnt_le xs i)) room
  unfold setAdd
  refine wpAny_holding (wpAny_bind ((strKind prog w).pyHash (strKind_is _ _ _ u) ?_))
  exact wpAny_setAddHashed_of (s := { s with toks := s.toks + 1 }) (strKind_is _ _ _ _) rfl T fits fun h' same T2 => q h' _ same (told_next hi T2)
theorem fill {R : Result → Shared → Prop} {it a : Addr} {fp wr : List Addr} {G : Array GenState → Array GenState → Prop} {P : Nat → Value → Prop} {St : Nat → Shared → Prop} (xs : List Str)
    (W : WalksS prog w A.in1 it fp wr G xs.length P St) (ha : a ∉ fp) (room : xs.length < scanBound) (each : ∀ i v, P i v → ∃ u, v = .str (xs.getD i Str.empty) u) :
    ∀ (j i : Nat) (s : Shared), i + j = xs.length → St i s → Told prog w a xs i s.heap → (∀ z, Moved (a :: wr) G s z → Told prog w a xs xs.length z.heap → R (.ok (.ret .none)) z) →
      codeAny (model prog w) A (.builtin "set.update.loop" ⟨[.ref a, .ref it], []⟩) R s := by
  have out : a ∉ wr := fun z => ha (W.sub a z)
  have more : ∀ {s z : Shared}, Moved wr G s z → Moved (a :: wr) G s z := fun m => m.mono fun b hb => .tail _ hb
  intro j
  induction j with
  | zero =>
    intro i s e st T fin
    obtain rfl : i = xs.length := by omega
    refine codeAny_builtin F.entry_set_update_loop ?_
    rw [Around.under_plainId F.plain_set_update_loop _]
    refine wpAny_bind (f := fun x => _) (W.done s _ _ st fun z m => ?_)
    exact wpAny_pure (M := model prog w) (A := A.in1) (fin z (more m) (T.keep fun o h => m.heap a o out h))
  | succ j ih =>
    intro i s e st T fin
    have lt : i < xs.length := by omega
    refine codeAny_builtin F.entry_set_update_loop ?_
    rw [Around.under_plainId F.plain_set_update_loop _]
    refine wpAny_bind (f := fun x => _) (W.item i s _ _ lt st fun v z hv st' m => ?_)
    obtain ⟨u, rfl⟩ := each i v hv
    refine wpAny_bind (f := fun x => _) (wpAny_holding (add_str lt (by omega) (T.keep fun o h => m.heap a o out h) fun h' b same T' => ?_))
    refine wpAny_pure (M := model prog w) (A := A.in1) ⟨plainId_quiet F.plain_set_update_loop _, ih (i + 1) _ (by omega) (W.frame _ z _ _ st' (Nat.le_succ _) fun b hb o h => (same.2 b fun q => ha (q ▸ hb)).trans h) T' fun z' m' T2 => fin z' ?_ T2⟩
    exact ((more m).then_heap (Nat.le_succ _) fun b o hb h => (same.2 b fun q => hb (q ▸ List.mem_cons_self ..)).trans h).trans W.gtrans m'
end
section
variable {prog : Program} {w : World} {A : Around} {E : Value → Shared → Prop} {s : Shared}
set_option maxHeartbeats 3200000 in
theorem make {x : Str} {t : Tok} {Q : Value → Shared → Prop} (led0 : A.handled = none) (room : x.length < scanBound)
    (q : ∀ (h' : Heap) (tk : Nat), Told prog w s.heap.objs.size (signs x) (signs x).length h' → (∀ b o, s.heap.get? b = some o → h'.get? b = some o) → Q (.ref s.heap.objs.size) { s with heap := h', toks := tk }) :
    wpAny (model prog w) A (call (.type "set") [.str x t]) Q E s := by
  obtain ⟨c0, rest, mro⟩ := PySem.F.called_set.mro
  have c1 := PySem.F.called_set.made
  have c2 := PySem.F.called_set.sub
  have c3 := PySem.F.called_set.notType
  have c4 := PySem.F.called_set.canCreate
  have c5 := PySem.F.typeCall_set_1 (.str x t)
  refine wpAny_call (codeAny_of_tree ?_)
  show wpAny _ _ (callAny (.type "set") _) _ _ _
  refine wpAny_pure ⟨Code.quiet_builtin _ (by decide +kernel), codeAny_builtin PySem.F.entry_type_call ?_⟩
  rw [Around.under_plain (weight_type_call_type "set" [.str x t] []) rfl]
  repeat (any_goals (first | assumption | wp_step))
  refine codeAny_mono (code_set_new_1 (.str x t) (E := E) (Q₁ := fun v z => ∃ b, v = .ref s.heap.objs.size ∧ z = { s with heap := s.heap.push (nude b) }) fun b => ⟨b, rfl, rfl⟩) fun r z hr => ?_
  cases r with
  | error e => exact hr
  | ok fl =>
    cases fl with
    | ret v =>
      obtain ⟨b, rfl, rfl⟩ := hr
      have here : (s.heap.push (nude b)).get? s.heap.objs.size = some (nude b) := Heap.get?_push_size _ rfl
      have kind : Shared.TypeIs { s with heap := s.heap.push (nude b) } (.ref s.heap.objs.size) "set" := ⟨_, here, rfl⟩
      have c6 := PySem.F.called_set.init.lookup
      have c7 := PySem.F.called_set.init.bind (.ref s.heap.objs.size)
      repeat (any_goals (first | assumption | wp_step))
      refine codeAny_mono (codeAny_call_builtin (R := wants (fun r z => r = .none ∧ ∃ h' tk, z = { s with heap := h', toks := tk } ∧ Told prog w s.heap.objs.size (signs x) (signs x).length h' ∧ (∀ b o, s.heap.get? b = some o → h'.get? b = some o)) E)
        PySem.F.called_set.init.plain PySem.F.entry_set_init (check_set_init_1 kind ?_)) fun r z hr => ?_
      · have n1 := PySem.F.sub_str_set
        have n2 := PySem.F.sub_str_frozenset
        have n3 : (Value.type "str" == Value.type "dict") = false := by decide
        unfold Builtin.«set.__init__» noKeywords Builtin.Frozenset.updateFrom
        generalize hI : pyIter = I
        wp_walk
        subst hI
        refine wpAny_pyIter_str fun o St W st => ?_
        refine wpAny_bind (wpAny_runValue ?_)
        have led3 : A.in1.in1.in1.handled = none := by simp [led0]
        have here2 := Heap.get?_push_of_some o here
        have ln : (signs x).length = x.cps.size := signs_length x
        have sz : (s.heap.push (nude b)).objs.size = s.heap.objs.size + 1 := Heap.size_push ..
        have apart : s.heap.objs.size ∉ [(s.heap.push (nude b)).objs.size] := fun hb => by
          have hb := List.mem_singleton.mp hb
          rw [sz] at hb
          omega
        have each : ∀ i v, SignAt x i v → ∃ u, v = .str ((signs x).getD i Str.empty) u := fun i v ⟨c, u, hc, ev⟩ => ⟨u, by rw [ev, List.getD_eq_getElem?_getD, signs_get hc]; rfl⟩
        have none' : Told prog w s.heap.objs.size (signs x) 0 ((s.heap.push (nude b)).push o) := SetOf_congr ((setObjOf_fresh (knd := strKind prog w) b).setOf here2 (by unfold scanBound; omega)) (fun _ => rfl) rfl
        refine fill (signs x) (ln ▸ (W _ led3).toS) apart (by rw [ln]; exact room) each _ 0 _ (Nat.zero_add _) st none' fun z m T => ?_
        obtain ⟨h', g', d', tk', os'⟩ := z
        obtain rfl : g' = s.gens := m.gens
        obtain rfl : d' = s.drawn := m.drawn
        obtain rfl : os' = s.os := m.os
        refine wpAny_pure (M := model prog w) ?_
        refine wpAny_pure (M := model prog w) ⟨rfl, h', tk', rfl, T, fun b' o' e => m.heap b' o' ?_ (Heap.get?_push_of_some _ (Heap.get?_push_of_some _ e))⟩
        have lt := Heap.lt_size e
        rw [sz]
        simp only [List.mem_cons, List.not_mem_nil, or_false, not_or]
        exact ⟨Nat.ne_of_lt lt, Nat.ne_of_lt (Nat.lt_succ_of_lt lt)⟩
      · cases r with
        | error e => exact hr
        | ok fl =>
          cases fl with
          | ret v =>
            obtain ⟨rfl, h', tk, rfl, T, keep⟩ := hr
            repeat (any_goals (first | assumption | wp_step))
            exact q _ _ T keep
          | _ => exact hr.elim
    | _ => exact hr.elim
end
end SetS
namespace L2
open PySem PySem.Spec PyProof.Rows
noncomputable def tLenSetS (ta : TE) : TE := fun σ H Q => ta σ H fun v H1 => ∃ x : Str, v = .str x ∧ x.length < scanBound ∧ Q (.int (SetS.cnt (signs x) (signs x).length : Nat)) H1
section
variable {X : Cx}
theorem pe_lenSetS {a : Expr} {ta : TE} {p p2 q pos : Pos} (calm : X.calm = true) (g1 : Gl X "len") (m1 : X.mg "len" = none) (g2 : Gl X "set") (m2 : X.mg "set" = none) (ha : PE X a ta)
    (st : starEach [a] X.env = (false, eval a X.env) :: starEach [] X.env := by rfl) : PE X (.Call (.Name "len" p) [.Call (.Name "set" p2) [a] [] q] [] pos) (tLenSetS ta) := by
  refine ⟨fun pins s σ H Q I h => Call_ (ld_blt I g1 m1 boot_len (callWith_builtin1 (args_cons ?_ rfl) rfl rfl))⟩
  refine Call_ (ld_blt I g2 m2 boot_set (callWith_type1 (args_cons (thn (ha.run pins s σ H _ I h) fun v z ⟨y, H1, I1, r1, x, ex, room, q1⟩ => args_nil ?_) st) st rfl))
  subst ex
  obtain ⟨t, rfl⟩ := r1
  refine SetS.make (I1.ok.hd calm) room fun h' tk T keep => args_nil ?_
  obtain ⟨o, es, ep, tb, at', exact', data, _, _, _, fit, many⟩ := T
  have small : SetS.cnt (signs x) (signs x).length < scanBound := Nat.lt_of_le_of_lt (SetS.cnt_le _ _) (by rw [signs_length]; exact room)
  have I2 : Inv X pins σ H1 { z with heap := h', toks := tk } := I1.kept keep
  exact call_len_set at' exact' data fit (by rw [many]; unfold scanBound at small; omega) ⟨.int (SetS.cnt (signs x) (signs x).length : Nat), H1, I2.tok _, ⟨_, by rw [many]⟩, q1⟩
end
end L2
namespace Tw
def aRfl : Lean.Syntax := .node .none `Lean.Parser.Tactic.tacticSeq #[.node .none `Lean.Parser.Tactic.tacticSeq1Indented #[.node .none `null #[.node .none `Lean.Parser.Tactic.tacticRfl #[.atom .none "rfl"]]]]
open PySem PySem.Spec PyProof.Rows L2 TL
class Rep (α : Type) where
  rp : PySem.W.Frag → Hp → V → α → Prop
  mono : ∀ {K : PySem.W.Frag} {F F' : Hp} {v : V} {x : α}, Same F F' → rp K F v x → rp K F' v x
noncomputable abbrev rp {α : Type} {i : Rep α} (K : PySem.W.Frag) (F : Hp) (v : V) (x : α) : Prop := i.rp K F v x
noncomputable abbrev Tx := List Nat
noncomputable def sx (x : Tx) : Str := ⟨x.toArray⟩
theorem tl_sx (x : Tx) : tl (sx x) = x := rfl
theorem sx_inj {x y : Tx} (h : sx x = sx y) : x = y := by have := congrArg tl h; simpa [tl_sx] using this
theorem sx_len (x : Tx) : (sx x).length = x.length := by rw [len_tl]; rfl
theorem sx_app (x y : Tx) : sx x ++ sx y = sx (x ++ y) := ext_tl (by rw [tl_append]; rfl)
noncomputable instance repInt : Rep Int := ⟨fun _ _ v x => v = .int x, fun _ h => h⟩
noncomputable instance repBool : Rep Bool := ⟨fun _ _ v x => v = .bl x, fun _ h => h⟩
noncomputable instance repUnit : Rep Unit := ⟨fun _ _ v _ => v = .non, fun _ h => h⟩
noncomputable instance repTx : Rep (List Nat) := ⟨fun _ _ v x => v = .str (sx x), fun _ h => h⟩
noncomputable instance repList {α : Type} [i : Rep α] : Rep (List α) := ⟨fun K H v xs => ∃ a vs, v = .ref a ∧ H a = some (.lst vs) ∧ Paired (fun u x => i.rp K H u x) vs xs,
  fun s ⟨a, vs, e, h, p⟩ => ⟨a, vs, e, s _ _ h, Paired.mapP p fun _ _ q => i.mono s q⟩⟩
set_option genInjectivity true in
structure Tup (α : Type) where
  l : List α
noncomputable instance repTup {α : Type} [i : Rep α] : Rep (Tup α) := ⟨fun K H v xs => ∃ a vs, v = .ref a ∧ H a = some (.tup vs) ∧ Paired (fun u x => i.rp K H u x) vs xs.l,
  fun s ⟨a, vs, e, h, p⟩ => ⟨a, vs, e, s _ _ h, Paired.mapP p fun _ _ q => i.mono s q⟩⟩
noncomputable instance repPair {α β : Type} [i : Rep α] [j : Rep β] : Rep (α × β) := ⟨fun K H v x => ∃ a u w, v = .ref a ∧ H a = some (.tup [u, w]) ∧ i.rp K H u x.1 ∧ j.rp K H w x.2,
  fun s ⟨a, u, w, e, h, p, q⟩ => ⟨a, u, w, e, s _ _ h, i.mono s p, j.mono s q⟩⟩
noncomputable instance repOpt {α : Type} [i : Rep α] : Rep (Option α) := ⟨fun K H v x => match x with | none => v = .non | some y => i.rp K H v y,
  fun {K F F' v x} s h => by cases x with | none => exact h | some y => exact i.mono s h⟩
structure Scr where
  l : List Int
noncomputable instance repScr : Rep Scr := ⟨fun K H v x => ∃ a, v = .ref a ∧ SqL K H a (x.l.map V.int), fun s ⟨a, e, h⟩ => ⟨a, e, s.seq h⟩⟩
noncomputable abbrev Rps {α : Type} [i : Rep α] (K : PySem.W.Frag) (F : Hp) (vs : List V) (xs : List α) : Prop := Paired (fun u x => i.rp K F u x) vs xs
section
variable {α β : Type} [i : Rep α] [j : Rep β] {K : PySem.W.Frag} {F F' : Hp} {vs : List V} {xs : List α}
theorem Rps.mono (s : Same F F') (h : Rps K F vs xs) : Rps K F' vs xs := Paired.mapP h fun _ _ q => i.mono s q
theorem Rps.len (h : Rps K F vs xs) : vs.length = xs.length := Paired.length h
theorem pgetL {A B : Type} {G : A → B → Prop} : ∀ {l : List A} {m : List B} {k : Nat} {b : B}, Paired G l m → m[k]? = some b → ∃ a, l[k]? = some a ∧ G a b
  | _, _, 0, _, .cons r _, e => by simp at e; subst e; exact ⟨_, rfl, r⟩
  | _, _, k + 1, b, .cons _ t, e => by
    obtain ⟨a, h1, h2⟩ := pgetL (k := k) (b := b) t (by simpa using e)
    exact ⟨a, by simpa using h1, h2⟩
theorem ptake {A B : Type} {G : A → B → Prop} : ∀ {l : List A} {m : List B} (n : Nat), Paired G l m → Paired G (l.take n) (m.take n)
  | _, _, 0, _ => .nil
  | _, _, _ + 1, .nil => .nil
  | _, _, n + 1, .cons r t => .cons r (ptake n t)
theorem pdrop {A B : Type} {G : A → B → Prop} : ∀ {l : List A} {m : List B} (n : Nat), Paired G l m → Paired G (l.drop n) (m.drop n)
  | _, _, 0, r => r
  | _, _, _ + 1, .nil => .nil
  | _, _, n + 1, .cons _ t => pdrop n t
theorem papp {A B : Type} {G : A → B → Prop} : ∀ {l l' : List A} {m m' : List B}, Paired G l m → Paired G l' m' → Paired G (l ++ l') (m ++ m')
  | _, _, _, _, .nil, s => s
  | _, _, _, _, .cons r t, s => .cons r (papp t s)
theorem Rps.ints {ns : List Int} : ∀ {vs : List V}, Paired (fun u x => repInt.rp K F u x) vs ns → vs = ns.map V.int := by
  induction ns with
  | nil => intro vs h; cases h; rfl
  | cons n ns ih =>
    intro vs h
    cases h with
    | cons r t =>
      obtain rfl : _ = V.int n := r
      rw [ih t]
      rfl
theorem Rps.bls {ns : List Bool} : ∀ {vs : List V}, Paired (fun u x => repBool.rp K F u x) vs ns → vs = ns.map V.bl := by
  induction ns with
  | nil => intro vs h; cases h; rfl
  | cons n ns ih =>
    intro vs h
    cases h with
    | cons r t =>
      obtain rfl : _ = V.bl n := r
      rw [ih t]
      rfl
theorem Rps.strs {ns : List Tx} : ∀ {vs : List V}, Paired (fun u x => repTx.rp K F u x) vs ns → vs = (ns.map sx).map V.str := by
  induction ns with
  | nil => intro vs h; cases h; rfl
  | cons n ns ih =>
    intro vs h
    cases h with
    | cons r t =>
      obtain rfl : _ = V.str (sx n) := r
      rw [ih t]
      rfl
theorem Rps.of_ints : ∀ (ns : List Int), Rps K F (ns.map V.int) ns
  | [] => .nil
  | n :: ns => .cons rfl (Rps.of_ints ns)
end
structure ExtM (M : Addr → Prop) (F H F' H' : Hp) : Prop where
  ff : Same F F'
  fh : Same F' H'
  hh : ∀ b o, ¬ M b → H b = some o → H' b = some o
  nwM : ∀ a, ¬ M a → F a = none → H a ≠ none → F' a = none
  th : ∀ a, M a → H a ≠ none → H' a ≠ none
noncomputable abbrev M0 : Addr → Prop := fun _ => False
noncomputable abbrev Ext := ExtM M0
theorem Ext.hs {F H F' H' : Hp} (e : Ext F H F' H') : Same H H' := fun b o h => e.hh b o (fun z => z) h
theorem Ext.refl {F H : Hp} (h : Same F H) : Ext F H F H := ⟨Same.refl F, h, fun _ _ _ h => h, fun _ _ h _ => h, fun _ z => z.elim⟩
theorem ExtM.nw {F H F' H' : Hp} (e : Ext F H F' H') (a : Addr) (h1 : F a = none) (h2 : H a ≠ none) : F' a = none := e.nwM a (fun z => z) h1 h2
theorem ExtM.trans {M : Addr → Prop} {F H F1 H1 F2 H2 : Hp} (a : ExtM M F H F1 H1) (b : Ext F1 H1 F2 H2) : ExtM M F H F2 H2 :=
  have keep : ∀ x, H1 x ≠ none → H2 x ≠ none := fun x h z => by
    cases q : H1 x with
    | none => exact h q
    | some o => rw [b.hs _ _ q] at z; cases z
  ⟨a.ff.trans b.ff, b.fh, fun x o hx h => b.hs _ _ (a.hh x o hx h), fun x hx h1 h2 => b.nw x (a.nwM x hx h1 h2) (by
    intro z
    cases q : H x with
    | none => exact h2 q
    | some o => rw [a.hh x o hx q] at z; cases z), fun x hx h => keep x (a.th x hx h)⟩
theorem Ext.trans {F H F1 H1 F2 H2 : Hp} (a : Ext F H F1 H1) (b : Ext F1 H1 F2 H2) : Ext F H F2 H2 := ExtM.trans a b
theorem Ext.new {F H : Hp} (h : Same F H) {p : Addr} {o : HO} (hp : H p = none) : Ext F H (upd F p o) (upd H p o) := by
  have fp : F p = none := h.free hp
  refine ⟨fun b u e => ?_, fun b u e => ?_, fun b u _ e => ?_, fun b _ e ne => ?_, fun _ z => z.elim⟩
  · rw [upd_ne (ne_of_none e fp)]; exact e
  · by_cases hb : b = p
    · subst hb; rw [upd_same] at e ⊢; exact e
    · rw [upd_ne hb] at e ⊢; exact h _ _ e
  · rw [upd_ne (ne_of_none e hp)]; exact e
  · rw [upd_ne (fun z => by subst z; exact ne hp)]; exact e
theorem Ext.apart {F H : Hp} (h : Same F H) {p : Addr} {o : HO} (hp : H p = none) : Ext F H F (upd H p o) :=
  ⟨Same.refl F, fun b u e => by rw [upd_ne (ne_of_none (h _ _ e) hp)]; exact h _ _ e, fun b u _ e => by rw [upd_ne (ne_of_none e hp)]; exact e, fun _ _ e _ => e, fun _ z => z.elim⟩
theorem same_upd {F H : Hp} (h : Same F H) {p : Addr} {o : HO} (fp : F p = none) : Same F (upd H p o) := fun b u e => by
  rw [upd_ne (ne_of_none e fp)]; exact h _ _ e
structure Own where
  fp : List Addr
  root : V
  ok : PySem.W.Frag → Hp → Hp → V → Prop
  stay : ∀ {K : PySem.W.Frag} {F F' H H' : Hp} {v : V}, Same F F' → (∀ b ∈ fp, ∀ o, H b = some o → H' b = some o) → ok K F H v → ok K F' H' v
  there : ∀ {K : PySem.W.Frag} {F H : Hp} {v : V}, ok K F H v → ∀ b ∈ fp, H b ≠ none
  rt : ∀ {K : PySem.W.Frag} {F H : Hp} {v : V}, ok K F H v → v = root
noncomputable def ownL {α : Type} (i : Rep α) (a : Addr) (xs : List α) : Own where
  fp := [a]
  root := .ref a
  ok := fun K F H v => v = .ref a ∧ ∃ vs, H a = some (.lst vs) ∧ Paired (fun u x => i.rp K F u x) vs xs
  stay := fun s k ⟨e, vs, h, p⟩ => ⟨e, vs, k a (List.mem_singleton.mpr rfl) _ h, Paired.mapP p fun _ _ q => i.mono s q⟩
  there := fun ⟨_, vs, h, _⟩ b hb z => by rw [List.mem_singleton.mp hb, h] at z; cases z
  rt := fun h => h.1
set_option genInjectivity true in
inductive Slot : Type 1 where
  | no
  | val {α : Type} (i : Rep α) (x : α)
  | own (o : Own)
noncomputable abbrev Slot.lst {α : Type} (i : Rep α) (a : Addr) (xs : List α) : Slot := .own (ownL i a xs)
noncomputable abbrev vl {α : Type} [i : Rep α] (x : α) : Slot := .val i x
noncomputable abbrev ls {α : Type} [i : Rep α] (a : Addr) (xs : List α) : Slot := .lst i a xs
set_option genInjectivity true in
inductive Ret : Type 1 where
  | val {α : Type} (i : Rep α) (x : α)
  | new {α : Type} (i : Rep α) (xs : List α)
  | own (P : Own → Prop)
  | chg {α : Type} (i : Rep α) (x : α) (os : List Own)
noncomputable abbrev rv {α : Type} [i : Rep α] (x : α) : Ret := .val i x
noncomputable abbrev rn {α : Type} [i : Rep α] (xs : List α) : Ret := .new i xs
structure Bs where
  F : Hp
  H : Hp
  M : Addr → Prop
noncomputable def Bs.nw (B : Bs) (b : Addr) : Prop := B.H b = none ∨ B.M b
noncomputable def SlotOk (K : PySem.W.Frag) (B : Bs) (F H : Hp) (ov : Option V) : Slot → Prop
  | .no => True
  | .val i x => ∃ v, ov = some v ∧ i.rp K F v x
  | .own o => ∃ v, ov = some v ∧ o.ok K F H v ∧ ∀ b ∈ o.fp, F b = none ∧ B.nw b
noncomputable def Slot.isOwn : Slot → Bool
  | .own _ => true
  | _ => false
noncomputable def Apart (Γ : List Slot) : Prop := ∀ (i j : Nat) o1 o2, i ≠ j → Γ[i]? = some (.own o1) → Γ[j]? = some (.own o2) → ∀ b ∈ o1.fp, b ∉ o2.fp
structure Lc (K : PySem.W.Frag) (B : Bs) (F H : Hp) (σ : L2.St) (Γ : List Slot) : Prop where
  ext : ExtM B.M B.F B.H F H
  len : σ.length = Γ.length
  ok : ∀ (i : Nat) s, Γ[i]? = some s → SlotOk K B F H (σ[i]?).join s
  ap : Apart Γ
section
variable {K : PySem.W.Frag} {B : Bs} {F H F' H' : Hp} {σ : L2.St} {Γ : List Slot} {α : Type} {i : Rep α}
theorem Lc.same (L : Lc K B F H σ Γ) : Same F H := L.ext.fh
theorem Lc.there (L : Lc K B F H σ Γ) : ∀ x, B.M x → B.H x ≠ none → H x ≠ none := L.ext.th
theorem Lc.nw (L : Lc K B F H σ Γ) {b : Addr} (h : H b = none) : B.nw b := by
  by_cases hm : B.M b
  · exact .inr hm
  · refine .inl ?_
    cases q : B.H b with
    | none => rfl
    | some o => rw [L.ext.hh b o hm q] at h; cases h
theorem SlotOk.step {ov : Option V} {s : Slot} (e : Ext F H F' H') (h : SlotOk K B F H ov s) : SlotOk K B F' H' ov s := by
  cases s with
  | no => trivial
  | val i x => obtain ⟨v, e1, r⟩ := h; exact ⟨v, e1, i.mono e.ff r⟩
  | own o =>
    obtain ⟨v, e1, ok, f⟩ := h
    exact ⟨v, e1, o.stay e.ff (fun b _ u q => e.hs _ _ q) ok, fun b hb => ⟨e.nw b (f b hb).1 (o.there ok b hb), (f b hb).2⟩⟩
theorem Lc.step (L : Lc K B F H σ Γ) (e : Ext F H F' H') : Lc K B F' H' σ Γ := ⟨L.ext.trans e, L.len, fun j s h => (L.ok j s h).step e, L.ap⟩
theorem slot_val {k : Nat} {x : α} (L : Lc K B F H σ Γ) (h : Γ[k]? = some (.val i x)) : ∃ v, σ[k]? = some (some v) ∧ i.rp K F v x := by
  obtain ⟨v, e, r⟩ := L.ok k _ h
  refine ⟨v, ?_, r⟩
  cases q : σ[k]? with
  | none => rw [q] at e; cases e
  | some o => rw [q] at e; rw [← e]; rfl
theorem slot_own {k : Nat} {o : Own} (L : Lc K B F H σ Γ) (h : Γ[k]? = some (.own o)) : ∃ v, σ[k]? = some (some v) ∧ o.ok K F H v ∧ ∀ b ∈ o.fp, F b = none ∧ B.nw b := by
  obtain ⟨v, e, r⟩ := L.ok k _ h
  refine ⟨v, ?_, r⟩
  cases q : σ[k]? with
  | none => rw [q] at e; cases e
  | some o => rw [q] at e; rw [← e]; rfl
theorem slot_lst {k : Nat} {a : Addr} {xs : List α} (L : Lc K B F H σ Γ) (h : Γ[k]? = some (.lst i a xs)) :
    ∃ vs, σ[k]? = some (some (.ref a)) ∧ F a = none ∧ B.nw a ∧ H a = some (.lst vs) ∧ Paired (fun u x => i.rp K F u x) vs xs := by
  obtain ⟨v, e, ⟨rfl, vs, h1, p⟩, f⟩ := slot_own L h
  exact ⟨vs, e, (f a (List.mem_singleton.mpr rfl)).1, (f a (List.mem_singleton.mpr rfl)).2, h1, p⟩
theorem get_set_join {σ : L2.St} {k j : Nat} {o : Option V} : ((σ.set k o)[j]?).join = if k = j ∧ j < σ.length then o else (σ[j]?).join := by
  by_cases h : k = j
  · subst h
    by_cases hl : k < σ.length
    · rw [List.getElem?_set_self hl, if_pos ⟨rfl, hl⟩]; rfl
    · rw [List.getElem?_eq_none (by simpa using hl), if_neg (fun z => hl z.2), List.getElem?_eq_none (by simpa using hl)]
  · rw [List.getElem?_set_ne h, if_neg (fun z => h z.1)]
theorem get_set_slot {Γ : List Slot} {k j : Nat} {o s : Slot} (h : (Γ.set k o)[j]? = some s) : (k = j ∧ j < Γ.length ∧ s = o) ∨ (k ≠ j ∧ Γ[j]? = some s) := by
  by_cases e : k = j
  · subst e
    have hl : k < Γ.length := by
      have := (List.getElem?_eq_some_iff.mp h).1
      simpa using this
    rw [List.getElem?_set_self hl] at h
    exact .inl ⟨rfl, hl, (Option.some.inj h).symm⟩
  · rw [List.getElem?_set_ne e] at h
    exact .inr ⟨e, h⟩
theorem Apart.put (A : Apart Γ) (k : Nat) {s : Slot} (hs : s.isOwn = false) : Apart (Γ.set k s) := fun i j o1 o2 hij h1 h2 => by
  rcases get_set_slot h1 with ⟨_, _, e⟩ | ⟨_, h1⟩
  · rw [← e] at hs; cases hs
  rcases get_set_slot h2 with ⟨_, _, e⟩ | ⟨_, h2⟩
  · rw [← e] at hs; cases hs
  exact A i j o1 o2 hij h1 h2
theorem Apart.putO (A : Apart Γ) (k : Nat) {o : Own} (h : ∀ (j : Nat) o', k ≠ j → Γ[j]? = some (.own o') → ∀ b ∈ o.fp, b ∉ o'.fp) : Apart (Γ.set k (.own o)) := fun i j o1 o2 hij h1 h2 b hb1 hb2 => by
  rcases get_set_slot h1 with ⟨k1, _, e⟩ | ⟨n1, h1⟩
  · cases e
    rcases get_set_slot h2 with ⟨k2, _, e⟩ | ⟨n2, h2⟩
    · exact hij (k1.symm.trans k2)
    · exact h j o2 n2 h2 b hb1 hb2
  · rcases get_set_slot h2 with ⟨k2, _, e⟩ | ⟨n2, h2⟩
    · cases e
      exact h i o1 n1 h1 b hb2 hb1
    · exact A i j o1 o2 hij h1 h2 b hb1 hb2
theorem Lc.put (L : Lc K B F H σ Γ) (k : Nat) {ov : Option V} {s : Slot} (hs : s.isOwn = false) (ho : SlotOk K B F H ov s) : Lc K B F H (σ.set k ov) (Γ.set k s) := by
  refine ⟨L.ext, by simp [L.len], fun j t h => ?_, L.ap.put k hs⟩
  rw [get_set_join]
  rcases get_set_slot h with ⟨e1, e2, rfl⟩ | ⟨e1, h⟩
  · rw [if_pos ⟨e1, by rw [L.len]; exact e2⟩]; exact ho
  · rw [if_neg fun z => e1 z.1]; exact L.ok j t h
theorem Lc.putV (L : Lc K B F H σ Γ) (k : Nat) {v : V} {x : α} (r : i.rp K F v x) : Lc K B F H (σ.set k (some v)) (Γ.set k (.val i x)) := L.put k rfl ⟨v, rfl, r⟩
theorem Lc.putN (L : Lc K B F H σ Γ) (k : Nat) (o : Option V) : Lc K B F H (σ.set k o) (Γ.set k .no) := L.put k rfl trivial
theorem Lc.ne_own (L : Lc K B F H σ Γ) {b : Addr} (hb : H b = none) {j : Nat} {o : Own} (h : Γ[j]? = some (.own o)) : b ∉ o.fp := fun hm => by
  obtain ⟨v, _, ok, _⟩ := slot_own L h
  exact o.there ok b hm hb
theorem Lc.putO (L : Lc K B F H σ Γ) (k : Nat) (e : Ext F H F' H') {o : Own} {v : V} (new : ∀ b ∈ o.fp, H b = none ∧ F' b = none) (ok : o.ok K F' H' v) : Lc K B F' H' (σ.set k (some v)) (Γ.set k (.own o)) := by
  have L' := L.step e
  refine ⟨L'.ext, by simp [L.len], fun j t h => ?_, L.ap.putO k fun j o' _ h b hb => L.ne_own (new b hb).1 h⟩
  rw [get_set_join]
  rcases get_set_slot h with ⟨e1, e2, rfl⟩ | ⟨e1, h⟩
  · rw [if_pos ⟨e1, by rw [L.len]; exact e2⟩]
    exact ⟨v, rfl, ok, fun b hb => ⟨(new b hb).2, L.nw (new b hb).1⟩⟩
  · rw [if_neg fun z => e1 z.1]; exact L'.ok j t h
theorem Lc.putL (L : Lc K B F H σ Γ) (k : Nat) (e : Ext F H F' H') {a : Addr} {vs : List V} {xs : List α} (ha : H a = none) (fa : F' a = none) (h' : H' a = some (.lst vs)) (p : Paired (fun u x => i.rp K F' u x) vs xs) :
    Lc K B F' H' (σ.set k (some (.ref a))) (Γ.set k (.lst i a xs)) := L.putO k e (fun b hb => by rw [List.mem_singleton.mp hb]; exact ⟨ha, fa⟩) ⟨rfl, vs, h', p⟩
theorem Lc.updO (L : Lc K B F H σ Γ) {k : Nat} {o o' : Own} {v : V} (hk : Γ[k]? = some (.own o)) (hv : σ[k]? = some (some v)) (keep : ∀ b u, b ∉ o.fp → H b = some u → H' b = some u) (old : ∀ b ∈ o.fp, H' b ≠ none)
    (fp : ∀ b ∈ o'.fp, b ∈ o.fp ∨ H b = none) (ok : o'.ok K F H' v) : Lc K B F H' σ (Γ.set k (.own o')) := by
  obtain ⟨_, _, _, f⟩ := slot_own L hk
  have nfp : ∀ b u, F b = some u → b ∉ o.fp := fun b u q hb => by rw [(f b hb).1] at q; cases q
  refine ⟨⟨L.ext.ff, fun b u q => keep b u (nfp b u q) (L.same _ _ q), fun b u nb q => ?_, L.ext.nwM, fun x hx hb => ?_⟩, by simp [L.len], fun q t h => ?_, L.ap.putO k fun j o2 hj h b hb => ?_⟩
  · refine keep b u (fun hb => ?_) (L.ext.hh b u nb q)
    rcases (f b hb).2 with z | z
    · rw [z] at q; cases q
    · exact nb z
  · by_cases hm : x ∈ o.fp
    · exact old x hm
    · have := L.there x hx hb
      cases q : H x with
      | none => exact absurd q this
      | some u => rw [keep x u hm q]; exact fun z => nomatch z
  · rcases get_set_slot h with ⟨e1, e2, rfl⟩ | ⟨e1, hq⟩
    · subst e1
      rw [hv]
      refine ⟨v, rfl, ok, fun b hb => ?_⟩
      rcases fp b hb with z | z
      · exact f b z
      · exact ⟨L.same.free z, L.nw z⟩
    · have old' := L.ok q t hq
      cases t with
      | no => trivial
      | val i x => exact old'
      | own o2 =>
        obtain ⟨u, eu, ok2, f2⟩ := old'
        exact ⟨u, eu, o2.stay (Same.refl F) (fun b hb w q1 => keep b w (fun hb2 => L.ap k q o o2 e1 hk hq b hb2 hb) q1) ok2, f2⟩
  · rcases fp b hb with z | z
    · exact L.ap k j o o2 hj hk h b z
    · exact L.ne_own z h
theorem Lc.updL (L : Lc K B F H σ Γ) {k : Nat} {a : Addr} {β : Type} {j : Rep β} {ys : List β} {vs' : List V} {xs' : List α} (hk : Γ[k]? = some (.lst j a ys)) (p : Paired (fun u x => i.rp K F u x) vs' xs') :
    Lc K B F (upd H a (.lst vs')) σ (Γ.set k (.lst i a xs')) := by
  obtain ⟨vs, ea, _⟩ := slot_lst L hk
  refine L.updO hk ea (fun b u hb q => ?_) (fun b hb => ?_) (fun b hb => .inl hb) ⟨rfl, vs', upd_same, p⟩
  · rw [upd_ne (fun z => hb (List.mem_singleton.mpr z))]; exact q
  · rw [List.mem_singleton.mp hb, upd_same]; exact fun z => nomatch z
end
section
variable {X : Cx} {σ : L2.St} {H : Hp}
structure WE (X : Cx) (e : Expr) (σ : L2.St) (H : Hp) (Q : VK) : Prop where
  go : ∀ pins s, Inv X pins σ H s → wpAny (model X.prog X.w) X.A (eval e X.env) (EP X pins σ Q) X.xe s
structure WT (X : Cx) (e : Expr) (σ : L2.St) (H : Hp) (Q : Bool → Hp → Prop) : Prop where
  go : ∀ pins s, Inv X pins σ H s → wpAny (model X.prog X.w) X.A (isTrue e X.env (eval e X.env)) (TP X pins σ Q) X.xe s
structure WA (X : Cx) (es : List Expr) (σ : L2.St) (H : Hp) (Q : List V → Hp → Prop) : Prop where
  go : ∀ pos pins s, Inv X pins σ H s → wpAny (model X.prog X.w) X.A (spliced (backTo pos (starEach es X.env))) (AP X pins σ Q) X.xe s
structure WP (X : Cx) (st : List Stmt) (D : Ends) (σ : L2.St) (H : Hp) : Prop where
  go : ∀ pins s, Inv X pins σ H s → wpAny (model X.prog X.w) X.A (execs st X.env) (SP X pins D) X.xe s
theorem peW {e : Expr} : PE X e (WE X e) := ⟨fun pins s _ _ _ I h => h.go pins s I⟩
theorem ptW {e : Expr} : PT X e (WT X e) := ⟨fun pins s _ _ _ I h => h.go pins s I⟩
theorem paW {es : List Expr} : PA X es (WA X es) := ⟨fun pos pins s _ _ _ I h => h.go pos pins s I⟩
theorem psW {st : List Stmt} : PSs X st (WP X st) := ⟨fun pins s _ _ _ I h => h.go pins s I⟩
theorem WE.of {e : Expr} {t : TE} {Q : VK} (p : PE X e t) (h : t σ H Q) : WE X e σ H Q := ⟨fun pins s I => p.run pins s σ H Q I h⟩
theorem WT.of {e : Expr} {t : TT} {Q : Bool → Hp → Prop} (p : PT X e t) (h : t σ H Q) : WT X e σ H Q := ⟨fun pins s I => p.run pins s σ H Q I h⟩
theorem WA.of {es : List Expr} {t : TA} {Q : List V → Hp → Prop} (p : PA X es t) (h : t σ H Q) : WA X es σ H Q := ⟨fun pos pins s I => p.run pos pins s σ H Q I h⟩
theorem WP.of {st : List Stmt} {t : TS} {D : Ends} (p : PSs X st t) (h : t D σ H) : WP X st D σ H := ⟨fun pins s I => p.run pins s σ H D I h⟩
theorem WP.cons {st : Stmt} {rest : List Stmt} {t : TS} {D : Ends} (p : PS X st t) (h : t { D with nx := fun σ' H' => WP X rest D σ' H' } σ H) : WP X (st :: rest) D σ H :=
  WP.of (pss_cons p psW) h
end
noncomputable def ROk (K : PySem.W.Frag) (N : Addr → Prop) (F' H' : Hp) (v : V) : Ret → Prop
  | .val i x => i.rp K F' v x
  | .new i xs => ∃ a vs, v = .ref a ∧ N a ∧ F' a = none ∧ H' a = some (.lst vs) ∧ Paired (fun u x => i.rp K F' u x) vs xs
  | .own P => ∃ o, P o ∧ (∀ b ∈ o.fp, N b ∧ F' b = none) ∧ o.ok K F' H' v
  | .chg i x os => i.rp K F' v x ∧ (∀ o ∈ os, o.ok K F' H' o.root ∧ ∀ b ∈ o.fp, N b ∧ F' b = none) ∧ os.Pairwise fun o1 o2 => ∀ b ∈ o1.fp, b ∉ o2.fp
noncomputable abbrev Nw (H : Hp) : Addr → Prop := fun b => H b = none
theorem ROk.imp {K : PySem.W.Frag} {N N' : Addr → Prop} {F' H' : Hp} {v : V} {r : Ret} (h : ROk K N F' H' v r) (n : ∀ b, N b → N' b) : ROk K N' F' H' v r := by
  cases r with
  | val i x => exact h
  | new i xs => obtain ⟨a, vs, e, h1, h2⟩ := h; exact ⟨a, vs, e, n a h1, h2⟩
  | own P => obtain ⟨o, p, f, ok⟩ := h; exact ⟨o, p, fun b hb => ⟨n b (f b hb).1, (f b hb).2⟩, ok⟩
  | chg i x os => obtain ⟨r, f, d⟩ := h; exact ⟨r, fun o ho => ⟨(f o ho).1, fun b hb => ⟨n b ((f o ho).2 b hb).1, ((f o ho).2 b hb).2⟩⟩, d⟩
noncomputable def EX (X : Cx) (Γ : List Slot) (e : Expr) (P : Ret → Prop) : Prop :=
  ∀ B F H σ Q, Lc X.K B F H σ Γ → (∀ r v F' H', P r → Ext F H F' H' → ROk X.K (Nw H) F' H' v r → Q v H') → WE X e σ H Q
noncomputable def EV (X : Cx) (Γ : List Slot) (e : Expr) {α : Type} [i : Rep α] (x : α) : Prop :=
  ∀ B F H σ Q, Lc X.K B F H σ Γ → (∀ v F' H', Ext F H F' H' → i.rp X.K F' v x → Q v H') → WE X e σ H Q
noncomputable def EN (X : Cx) (Γ : List Slot) (e : Expr) {α : Type} [i : Rep α] (xs : List α) : Prop :=
  ∀ B F H σ Q, Lc X.K B F H σ Γ → (∀ a vs F' H', Ext F H F' H' → H a = none → F' a = none → H' a = some (.lst vs) → Paired (fun u x => i.rp X.K F' u x) vs xs → Q (.ref a) H') → WE X e σ H Q
noncomputable def ET (X : Cx) (Γ : List Slot) (e : Expr) (b : Bool) : Prop :=
  ∀ B F H σ Q, Lc X.K B F H σ Γ → (∀ F' H', Ext F H F' H' → Q b H') → WT X e σ H Q
noncomputable def VsOk (K : PySem.W.Frag) (F : Hp) : List V → List Slot → Prop
  | [], [] => True
  | v :: vs, .val i x :: A => i.rp K F v x ∧ VsOk K F vs A
  | _, _ => False
noncomputable def EA (X : Cx) (Γ : List Slot) (es : List Expr) (A : List Slot) : Prop :=
  ∀ B F H σ Q, Lc X.K B F H σ Γ → (∀ vs F' H', Ext F H F' H' → VsOk X.K F' vs A → Q vs H') → WA X es σ H Q
theorem VsOk.mono {K : PySem.W.Frag} {F F' : Hp} (s : Same F F') : ∀ {vs : List V} {A : List Slot}, VsOk K F vs A → VsOk K F' vs A
  | [], [], _ => trivial
  | v :: vs, .val i x :: A, h => ⟨i.mono s h.1, VsOk.mono s h.2⟩
  | [], _ :: _, h => h.elim
  | _ :: _, [], h => h.elim
  | _ :: _, .no :: _, h => h.elim
  | _ :: _, .own _ :: _, h => h.elim
theorem VsOk.len {K : PySem.W.Frag} {F : Hp} : ∀ {vs : List V} {A : List Slot}, VsOk K F vs A → vs.length = A.length
  | [], [], _ => rfl
  | v :: vs, .val i x :: A, h => by rw [List.length_cons, List.length_cons, VsOk.len h.2]
  | [], _ :: _, h => h.elim
  | _ :: _, [], h => h.elim
  | _ :: _, .no :: _, h => h.elim
  | _ :: _, .own _ :: _, h => h.elim
structure Exn where
  cls : Str
  fld : Str
  why : Slot
noncomputable abbrev Spec := List Slot → (Ret → Prop) → (Exn → Prop) → Prop
noncomputable def XOk (K : PySem.W.Frag) (N : Addr → Prop) (F' H' : Hp) (u : Value) (d : Option Addr) (x : Exn) : Prop :=
  ∃ C, u = .ref C ∧ PySem.W.nsIn K mainGlobals x.cls = some (some (.ref C)) ∧
    match x.why with
    | .no => d = none
    | .val i y => ∃ dx w, d = some dx ∧ N dx ∧ F' dx = none ∧ H' dx = some (.xd [(x.fld, w)]) ∧ i.rp K F' w y
    | .own _ => False
theorem XOk.imp {K : PySem.W.Frag} {N N' : Addr → Prop} {F' H' : Hp} {u : Value} {d : Option Addr} {x : Exn} (h : XOk K N F' H' u d x) (n : ∀ a, N a → N' a) : XOk K N' F' H' u d x := by
  obtain ⟨C, e1, e2, h⟩ := h
  refine ⟨C, e1, e2, ?_⟩
  obtain ⟨cls, fld, why⟩ := x
  cases why with
  | no => exact h
  | val i y =>
    obtain ⟨dx, w, e3, e4, h⟩ := h
    exact ⟨dx, w, e3, n _ e4, h⟩
  | own o => exact h
noncomputable def Free (Γ : List Slot) (b : Addr) : Prop := ∀ (k : Nat) o, Γ[k]? = some (.own o) → b ∉ o.fp
noncomputable def XW (X : Cx) : WX := fun cls d σ H => ∀ u s', XE X (fun c d' σ' H' => c = cls ∧ d' = d ∧ σ' = σ ∧ H' = H) u s' → X.xe u s'
theorem takesW {X : Cx} : Takes X (XW X) := fun u s' ⟨a, B, sI, pins, σ, H, cls, d, e, I, nb, up, sky, na, os, ag, h⟩ => h u s' ⟨a, B, sI, pins, σ, H, cls, d, e, I, nb, up, sky, na, os, ag, rfl, rfl, rfl, rfl⟩
theorem XW.of {X : Cx} {W : WX} (tk : Takes X W) {cls : Value} {d : Option Addr} {σ : L2.St} {H : Hp} (h : W cls d σ H) : XW X cls d σ H := fun u s' ⟨a, B, sI, pins, σ', H', cls', d', e, I, nb, up, sky, na, os, ag, e1, e2, e3, e4⟩ => by
  subst e1 e2 e3 e4
  exact tk u s' ⟨a, B, sI, pins, σ', H', cls', d', e, I, nb, up, sky, na, os, ag, h⟩
noncomputable def VsOkO (K : PySem.W.Frag) (F H : Hp) : List V → List Slot → Prop
  | [], [] => True
  | v :: vs, .val i x :: A => i.rp K F v x ∧ VsOkO K F H vs A
  | v :: vs, .own o :: A => o.ok K F H v ∧ (∀ b ∈ o.fp, F b = none) ∧ VsOkO K F H vs A
  | _, _ => False
noncomputable def MA (A : List Slot) : Addr → Prop := fun b => ∃ o, Slot.own o ∈ A ∧ b ∈ o.fp
theorem VsOkO.len {K : PySem.W.Frag} {F H : Hp} : ∀ {vs : List V} {A : List Slot}, VsOkO K F H vs A → vs.length = A.length
  | [], [], _ => rfl
  | v :: vs, .val i x :: A, h => by rw [List.length_cons, List.length_cons, VsOkO.len h.2]
  | v :: vs, .own o :: A, h => by rw [List.length_cons, List.length_cons, VsOkO.len h.2.2]
  | [], _ :: _, h => h.elim
  | _ :: _, [], h => h.elim
  | _ :: _, .no :: _, h => h.elim
theorem VsOk.toO {K : PySem.W.Frag} {F H : Hp} : ∀ {vs : List V} {A : List Slot}, VsOk K F vs A → VsOkO K F H vs A
  | [], [], _ => trivial
  | v :: vs, .val i x :: A, h => ⟨h.1, VsOk.toO h.2⟩
  | [], _ :: _, h => h.elim
  | _ :: _, [], h => h.elim
  | _ :: _, .no :: _, h => h.elim
  | _ :: _, .own _ :: _, h => h.elim
theorem VsOk.no {K : PySem.W.Frag} {F : Hp} : ∀ {vs : List V} {A : List Slot}, VsOk K F vs A → ∀ o, Slot.own o ∉ A
  | [], [], _, _, h => by cases h
  | v :: vs, .val i x :: A, h, o, m => by
    rcases List.mem_cons.mp m with z | z
    · cases z
    · exact VsOk.no h.2 o z
  | [], _ :: _, h, _, _ => h.elim
  | _ :: _, [], h, _, _ => h.elim
  | _ :: _, .no :: _, h, _, _ => h.elim
  | _ :: _, .own _ :: _, h, _, _ => h.elim
theorem VsOk.apart {K : PySem.W.Frag} {F : Hp} {vs : List V} {A : List Slot} (h : VsOk K F vs A) : Apart A := fun i j o1 o2 _ h1 _ => absurd (List.mem_of_getElem? h1) (h.no o1)
theorem VsOk.ma {K : PySem.W.Frag} {F : Hp} {vs : List V} {A : List Slot} (h : VsOk K F vs A) {b : Addr} (m : MA A b) : False := by
  obtain ⟨o, h1, _⟩ := m
  exact h.no o h1
theorem Ext.thenM {M : Addr → Prop} {F H F1 H1 F2 H2 : Hp} (a : Ext F H F1 H1) (b : ExtM M F1 H1 F2 H2) (n : ∀ x, M x → H x = none) : Ext F H F2 H2 :=
  ⟨a.ff.trans b.ff, b.fh, fun x o _ h => b.hh x o (fun m => by rw [n x m] at h; cases h) (a.hs x o h), fun x _ h1 h2 => b.nwM x (fun m => h2 (n x m)) (a.nw x h1 h2) (by
    cases q : H x with
    | none => exact absurd q h2
    | some o => rw [a.hs x o q]; exact fun z => nomatch z), fun _ z => z.elim⟩
noncomputable def spOf (K : PySem.W.Frag) (S : Spec) : Sp := fun vs H Q E => ∃ F A, Same F H ∧ VsOkO K F H vs A ∧ Apart A ∧
  S A (fun r => ∀ v F' H', ExtM (MA A) F H F' H' → ROk K (Bs.nw ⟨F, H, MA A⟩) F' H' v r → Q v H') (fun x => ∀ u d F' H', ExtM (MA A) F H F' H' → XOk K (Bs.nw ⟨F, H, MA A⟩) F' H' u d x → E u d H')
structure Has (P : Program) (w : World) (K : PySem.W.Frag) (mg : Str → Option Value) (base : Heap) (k : Nat) (n : Str) (ps : List Str) (S : Spec) : Prop where
  ex : ∃ f fd, mg n = some (.ref f) ∧ PySem.W.keepIn K (.ref f) = true ∧ Binds K fd ps [] ∧ FnOk P w K mg base (L2.CX P w) k f fd ps (spOf K S)
structure SE where
  nx : List Slot → Prop
  rt : Ret → Prop
  bk : List Slot → Prop
  ct : List Slot → Prop
  ex : List Slot → Exn → Prop
noncomputable abbrev fin (Q : Ret → Prop) : SE := ⟨fun _ => Q (.val repUnit ()), Q, fun _ => False, fun _ => False, fun _ _ => False⟩
noncomputable abbrev finX (Q : Ret → Prop) (R : Exn → Prop) : SE := ⟨fun _ => Q (.val repUnit ()), Q, fun _ => False, fun _ => False, fun _ => R⟩
structure ED (X : Cx) (B : Bs) (F0 : Hp) (E : SE) (D : Ends) : Prop where
  nx : ∀ F H σ Γ, Same F0 F → E.nx Γ → Lc X.K B F H σ Γ → D.nx σ H
  rt : ∀ r v F H, E.rt r → ExtM B.M B.F B.H F H → ROk X.K B.nw F H v r → D.rt v H
  bk : ∀ F H σ Γ, Same F0 F → E.bk Γ → Lc X.K B F H σ Γ → D.bk σ H
  ct : ∀ F H σ Γ, Same F0 F → E.ct Γ → Lc X.K B F H σ Γ → D.ct σ H
  ex : ∀ F H σ Γ x u d, Same F0 F → E.ex Γ x → Lc X.K B F H σ Γ → XOk X.K (fun b => B.nw b ∧ Free Γ b) F H u d x → XW X u d σ H
theorem ED.weak {X : Cx} {B : Bs} {F0 F1 : Hp} {E : SE} {D : Ends} (h : ED X B F0 E D) (s : Same F0 F1) : ED X B F1 E D :=
  ⟨fun F H σ Γ q => h.nx F H σ Γ (s.trans q), h.rt, fun F H σ Γ q => h.bk F H σ Γ (s.trans q), fun F H σ Γ q => h.ct F H σ Γ (s.trans q), fun F H σ Γ x u d q => h.ex F H σ Γ x u d (s.trans q)⟩
theorem ED.exS {X : Cx} {B : Bs} {F0 F H F' H' : Hp} {E : SE} {D : Ends} {Γ : List Slot} {σ : L2.St} {x : Exn} {u : Value} {d : Option Addr} (ed : ED X B F0 E D) (s : Same F0 F) (hE : E.ex Γ x) (L : Lc X.K B F H σ Γ) (e : Ext F H F' H') (ok : XOk X.K (Nw H) F' H' u d x) : XW X u d σ H' :=
  ed.ex F' H' σ Γ x u d (s.trans e.ff) hE (L.step e) (ok.imp fun b h => ⟨L.nw h, fun k o hk => L.ne_own h hk⟩)
noncomputable def ST (X : Cx) (sts : List Stmt) (Γ : List Slot) (E : SE) : Prop :=
  ∀ B F H σ D, Lc X.K B F H σ Γ → ED X B F E D → WP X sts D σ H
noncomputable def noStar : Expr → Bool
  | .Starred .. => false
  | _ => true
theorem star_of {e : Expr} {es : List Expr} {env : Env} (h : noStar e = true) : starEach (e :: es) env = (false, eval e env) :: starEach es env := by
  cases e <;> first | rfl | cases h
theorem pl_of {pos : Pos} {env : Env} : ∀ {es : List Expr}, es.all noStar = true → (backTo pos (starEach es env)).any (·.1) = false
  | [], _ => rfl
  | e :: es, h => by
    rw [List.all_cons, Bool.and_eq_true] at h
    rw [star_of h.1]
    exact pl_of h.2
noncomputable def visB (sc : Scope) (x : Str) : Bool := match sc.names.lookup x with
  | some .local => true
  | some .cell => true
  | some .free => true
  | _ => false
theorem vis_of {sc : Scope} {x : Str} (h : visB sc x = true) : L2.Vis sc x := by
  unfold visB at h
  split at h
  · exact Or.inl (by assumption)
  · exact Or.inr (Or.inl (by assumption))
  · exact Or.inr (Or.inr (by assumption))
  · cases h
noncomputable def locB (sc : Scope) (x : Str) : Bool := match sc.names.lookup x with
  | some .local => true
  | some .cell => true
  | _ => false
theorem loc_of {sc : Scope} {x : Str} (h : locB sc x = true) : L2.Loc sc x := by
  unfold locB at h
  split at h
  · exact Or.inl (by assumption)
  · exact Or.inr (by assumption)
  · cases h
def aSeq (x : Lean.Syntax) : Lean.Syntax := .node .none `Lean.Parser.Tactic.tacticSeq #[.node .none `Lean.Parser.Tactic.tacticSeq1Indented #[.node .none `null #[x]]]
def aEx (n : Lean.Name) : Lean.Syntax := aSeq (.node .none `Lean.Parser.Tactic.exact #[.atom .none "exact", .node .none `Lean.Parser.Term.app #[.ident .none n.toString.toRawSubstring n [.decl n []], .node .none `null #[.ident .none "rfl".toRawSubstring `rfl [.decl `rfl []]]]])
def aStar : Lean.Syntax := aEx `Tw.star_of
def aPl : Lean.Syntax := aEx `Tw.pl_of
def aVis : Lean.Syntax := aEx `Tw.vis_of
def aLoc : Lean.Syntax := aEx `Tw.loc_of
def aHole : Lean.Syntax := .node .none `Lean.Parser.Term.hole #[.atom .none "_"]
def aIn (n : Nat) : Lean.Syntax := .node .none `Lean.Parser.Tactic.tacticSeq #[.node .none `Lean.Parser.Tactic.tacticSeq1Indented #[.node .none `null #[.node .none `Lean.Parser.Tactic.intro #[.atom .none "intro", .node .none `null (Array.replicate n aHole)], .atom .none ";", .node .none `Lean.Parser.Tactic.tacticRfl #[.atom .none "rfl"]]]]
def aIR1 : Lean.Syntax := aIn 1
def aDot (n : Lean.Name) (s : String) : Lean.Syntax := .node .none `group #[.atom .none "|", aSeq (.node .none `Lean.Parser.Tactic.exact #[.atom .none "exact", .node .none `Lean.Parser.Term.app #[.node .none `Lean.Parser.Term.dotIdent #[.atom .none ".", .ident .none s.toRawSubstring n []], .node .none `null #[.ident .none "rfl".toRawSubstring `rfl [.decl `rfl []]]]])]
def aNle : Lean.Syntax := aEx `Nat.le_of_ble_eq_true
def aAlt (x : Lean.Syntax) : Lean.Syntax := .node .none `group #[.atom .none "|", x]
def aPass : Lean.Syntax := aSeq (.node .none `Lean.Parser.Tactic.first #[.atom .none "first", .node .none `null #[aAlt (aSeq (.node .none `Lean.Parser.Tactic.exact #[.atom .none "exact", .ident .none "PySem.PassesOwn.never".toRawSubstring `PySem.PassesOwn.never [.decl `PySem.PassesOwn.never []]])), aAlt (aEx `L2.passes_of), aAlt (aSeq (.node .none `Lean.Parser.Tactic.assumption #[.atom .none "assumption"]))]])
def aFn : Lean.Syntax := aSeq (.node .none `Lean.Parser.Tactic.first #[.atom .none "first", .node .none `null #[aDot `inl "inl", aDot `inr "inr"]])
def aIR2 : Lean.Syntax := aIn 2
def aDec : Lean.Syntax := aSeq (.node .none `Lean.Parser.Tactic.decide #[.atom .none "decide", .node .none `Lean.Parser.Tactic.optConfig #[.node .none `null #[]]])
end Tw
namespace Tw
open PySem PySem.Spec PyProof.Rows L2 TL
noncomputable abbrev tx (s : String) : Tx := s.toList.map Char.toNat
theorem sl_small {n : Nat} (h : n ≤ 1000) : n ≤ sizeLine := Nat.le_trans h (by decide)
theorem sx_tx (s : String) : Str.ofString s = sx (tx s) := ext_tl (by rw [tl_ofString]; rfl)
section
variable {X : Cx} {Γ : List Slot} {α β γ : Type} {i : Rep α} {j : Rep β} {l : Rep γ} {pos p : Pos} {e a b c : Expr} {es : List Expr}
theorem ev_of_ex {x : α} (h : EX X Γ e fun r => r = .val i x) : EV X Γ e x := fun B F H σ Q L q =>
  h B F H σ Q L fun r v F' H' er ex ok => by subst er; exact q v F' H' ex ok
theorem en_of_ex {xs : List α} (h : EX X Γ e fun r => r = .new i xs) : EN X Γ e xs := fun B F H σ Q L q =>
  h B F H σ Q L fun r v F' H' er ex ok => by
    subst er
    obtain ⟨a, vs, rfl, h1, h2, h3, h4⟩ := ok
    exact q a vs F' H' ex h1 h2 h3 h4
theorem ev_of_en {xs : List α} (h : EN X Γ e xs) : EV X Γ e xs := fun B F H σ Q L q =>
  h B F H σ Q L fun a vs F' H' ex ha fa h' p => by
    have sm : Same F' (upd F' a (.lst vs)) := fun b u e => by rw [upd_ne (ne_of_none e fa)]; exact e
    refine q (.ref a) (upd F' a (.lst vs)) H' ⟨ex.ff.trans sm, fun b u e => ?_, ex.hh, fun b _ h1 h2 => ?_, fun _ z => z.elim⟩ ⟨a, vs, rfl, upd_same, Paired.mapP p fun _ _ q => i.mono sm q⟩
    · by_cases hb : b = a
      · subst hb; rw [upd_same] at e; rw [← e]; exact h'
      · rw [upd_ne hb] at e; exact ex.fh _ _ e
    · rw [upd_ne (fun z => by subst z; exact h2 ha)]; exact ex.nw b h1 h2
theorem ex_of_ev {x : α} {P : Ret → Prop} (h : EV X Γ e x) (hp : P (.val i x)) : EX X Γ e P := fun B F H σ Q L q =>
  h B F H σ Q L fun v F' H' ex r => q (.val i x) v F' H' hp ex r
theorem ex_of_en {xs : List α} {P : Ret → Prop} (h : EN X Γ e xs) (hp : P (.new i xs)) : EX X Γ e P := fun B F H σ Q L q =>
  h B F H σ Q L fun a vs F' H' ex ha fa h' p => q (.new i xs) (.ref a) F' H' hp ex ⟨a, vs, rfl, ha, fa, h', p⟩
theorem ev_eq {x y : α} (h : EV X Γ e x) (q : x = y) : EV X Γ e y := q ▸ h
theorem en_eq {x y : List α} (h : EN X Γ e x) (q : x = y) : EN X Γ e y := q ▸ h
theorem et_eq {x y : Bool} (h : ET X Γ e x) (q : x = y) : ET X Γ e y := q ▸ h
theorem et_val {k : Bool} (h : EV X Γ e k) (he : autoParam (∀ whole, isTrue e X.env whole = (do let v ← whole; standAt e.pos; holding [v] (truthy v))) Tw.aIR1) : ET X Γ e k := fun B F H σ Q L q =>
  WT.of (pt_val peW he) (h B F H σ _ L fun v F' H' ex r => ⟨k, r, q F' H' ex⟩)
theorem ev_var (k : Nat) {n : Str} {x : α} (hN : autoParam (X.N[k]? = some n) aRfl) (hv : autoParam (Vis X.env.scope n) aVis) (hd : autoParam ((n == ("__debug__" : Str)) = false) aDec)
    (hcd : autoParam ((n == ("__classdict__" : Str)) = false) aDec) (hg : autoParam (Γ[k]? = some (.val i x)) aRfl) : EV X Γ (.Name n pos) x := fun B F H σ Q L q => by
  obtain ⟨v, e1, r⟩ := slot_val L hg
  exact WE.of (pe_var hN hv hd hcd) ⟨v, e1, q v F H (Ext.refl L.same) r⟩
theorem ev_int {z : Int} {k} : EV X Γ (.Constant (.int z) k pos) z := fun B F H σ Q L q => WE.of pe_int (q _ F H (Ext.refl L.same) rfl)
theorem ev_bl {z : Bool} {k} : EV X Γ (.Constant (.bool z) k pos) z := fun B F H σ Q L q => WE.of pe_bl (q _ F H (Ext.refl L.same) rfl)
theorem ev_non {k} : EV X Γ (.Constant .none k pos) () := fun B F H σ Q L q => WE.of pe_non (q _ F H (Ext.refl L.same) rfl)
theorem ev_nonO {k} : EV X Γ (.Constant .none k pos) (none : Option α) := fun B F H σ Q L q => WE.of pe_non (q _ F H (Ext.refl L.same) rfl)
theorem ev_some {x : α} (h : EV X Γ e x) : EV X Γ e (some x) := fun B F H σ Q L q => h B F H σ Q L fun v F' H' ex r => q v F' H' ex r
theorem ev_str (s : String) {k} : EV X Γ (.Constant (.str (Str.ofString s)) k pos) (tx s) := fun B F H σ Q L q => WE.of pe_str (q _ F H (Ext.refl L.same) (congrArg V.str (sx_tx s)))
theorem ev_gint {n : Str} {z : Int} {t : Tok} (hm : X.mg n = some (.int z t)) (hg : autoParam (Gl X n) aRfl) (hd : autoParam ((n == ("__debug__" : Str)) = false) aDec) : EV X Γ (.Name n pos) z := fun B F H σ Q L q =>
  WE.of (pe_glob (v := .int z) hg hm ⟨t, rfl⟩ hd) (q _ F H (Ext.refl L.same) rfl)
theorem ev_gstr {n : Str} (s : String) {t : Tok} (hm : X.mg n = some (.str (Str.ofString s) t)) (hg : autoParam (Gl X n) aRfl) (hd : autoParam ((n == ("__debug__" : Str)) = false) aDec) : EV X Γ (.Name n pos) (tx s) := fun B F H σ Q L q =>
  WE.of (pe_glob (v := .str (Str.ofString s)) hg hm ⟨t, rfl⟩ hd) (q _ F H (Ext.refl L.same) (congrArg V.str (sx_tx s)))
noncomputable def rW (X : Cx) (f : Value → Value → Sem Value) : R2 := fun x y H Q => ∀ pins s σ v u, Inv X pins σ H s → RelV x v → RelV y u → wpAny (model X.prog X.w) X.A (f v u) (EP X pins σ Q) X.xe s
theorem opW {f : Value → Value → Sem Value} : OpR X f (rW X f) := fun pins s σ H x y v u Q I r1 r2 h => h pins s σ v u I r1 r2
noncomputable def OB (X : Cx) (f : Value → Value → Sem Value) {α β γ : Type} [i : Rep α] [j : Rep β] [l : Rep γ] (x : α) (y : β) (z : γ) : Prop :=
  ∀ F H v u Q, Same F H → i.rp X.K F v x → j.rp X.K F u y → (∀ w F' H', Ext F H F' H' → l.rp X.K F' w z → Q w H') → rW X f v u H Q
theorem ob_flat {f : Value → Value → Sem Value} {x : α} {y : β} {z : γ} {r : R2} (o : OpR X f r)
    (h : ∀ F H v u Q, Same F H → i.rp X.K F v x → j.rp X.K F u y → (∀ w, l.rp X.K F w z → Q w H) → r v u H Q) : OB X f x y z :=
  fun F H v u Q s r1 r2 q pins s' σ v' u' I rv ru => o pins s' σ H v u v' u' Q I rv ru (h F H v u Q s r1 r2 fun w hw => q w F H (Ext.refl s) hw)
theorem ev_bin {op : Operator} {x : α} {y : β} {z : γ} (o : OB X (binaryOp op) x y z) (ha : EV X Γ a x) (hb : EV X Γ b y) : EV X Γ (.BinOp a op b pos) z := fun B F H σ Q L q =>
  WE.of (pe_op opW peW peW) (ha B F H σ _ L fun v F1 H1 e1 r1 => hb B F1 H1 σ _ (L.step e1) fun u F2 H2 e2 r2 =>
    o F2 H2 v u Q (L.step (e1.trans e2)).same (i.mono e2.ff r1) r2 fun w F3 H3 e3 r3 => q w F3 H3 ((e1.trans e2).trans e3) r3)
theorem ev_cmp {op : CmpOp} {x : α} {y : β} {z : Bool} (o : OB X (compareOp op) x y z) (ha : EV X Γ a x) (hb : EV X Γ b y) (hm : behindInMarks op b = false := by first | exact nomark _ | rfl) : EV X Γ (.Compare a [op] [b] pos) z := fun B F H σ Q L q =>
  WE.of (pe_cmpR opW peW peW hm) (ha B F H σ _ L fun v F1 H1 e1 r1 => hb B F1 H1 σ _ (L.step e1) fun u F2 H2 e2 r2 =>
    o F2 H2 v u Q (L.step (e1.trans e2)).same (i.mono e2.ff r1) r2 fun w F3 H3 e3 r3 => q w F3 H3 ((e1.trans e2).trans e3) r3)
theorem et_cmp {op : CmpOp} {x : α} {y : β} {z : Bool} (o : OB X (compareOp op) x y z) (ha : EV X Γ a x) (hb : EV X Γ b y) (hm : behindInMarks op b = false := by first | exact nomark _ | rfl) : ET X Γ (.Compare a [op] [b] pos) z := fun B F H σ Q L q =>
  WT.of (pt_cmpR opW peW peW hm) (ha B F H σ _ L fun v F1 H1 e1 r1 => hb B F1 H1 σ _ (L.step e1) fun u F2 H2 e2 r2 =>
    o F2 H2 v u _ (L.step (e1.trans e2)).same (i.mono e2.ff r1) r2 fun w F3 H3 e3 r3 => ⟨z, r3, q F3 H3 ((e1.trans e2).trans e3)⟩)
theorem ev_chain {op op' : CmpOp} {x : α} {y : β} {w : γ} {k k' : Bool} (o : OB X (compareOp op) x y k) (o' : k = true → OB X (compareOp op') y w k') (ha : EV X Γ a x) (hb : EV X Γ b y) (hc : k = true → EV X Γ c w)
    (hm : lastMarks [op, op'] [b, c] = false := by with_unfolding_all rfl) : EV X Γ (.Compare a [op, op'] [b, c] pos) (k && k') := fun B F H σ Q L q =>
  WE.of (pe_chain opW opW peW peW peW hm) (ha B F H σ _ L fun v F1 H1 e1 r1 => hb B F1 H1 σ _ (L.step e1) fun u F2 H2 e2 r2 =>
    o F2 H2 v u _ (L.step (e1.trans e2)).same (i.mono e2.ff r1) r2 fun z F3 H3 e3 r3 => ⟨k, r3, by
      have e123 := (e1.trans e2).trans e3
      cases k with
      | false => exact q _ F3 H3 e123 rfl
      | true => exact hc rfl B F3 H3 σ _ (L.step e123) fun t F4 H4 e4 r4 => o' rfl F4 H4 u t Q (L.step (e123.trans e4)).same (j.mono (e3.trans e4).ff r2) r4 fun w F5 H5 e5 r5 => q w F5 H5 ((e123.trans e4).trans e5) (by rw [Bool.true_and]; exact r5)⟩)
theorem ob_I {f : Value → Value → Sem Value} {C : Int → Int → Prop} {g : Int → Int → Int} {x y : Int} (o : OpR X f (rI C fun i j => .int (g i j))) (h : C x y) : OB X f x y (g x y) :=
  ob_flat o fun F H v u Q s r1 r2 q => ⟨x, y, r1, r2, h, q _ rfl⟩
theorem ob_I0 {f : Value → Value → Sem Value} {g : Int → Int → Int} {x y : Int} (o : OpR X f (rI0 fun i j => .int (g i j))) : OB X f x y (g x y) :=
  ob_flat o fun F H v u Q s r1 r2 q => ⟨x, y, r1, r2, q _ rfl⟩
theorem ob_B0 {f : Value → Value → Sem Value} {g : Int → Int → Bool} {x y : Int} (o : OpR X f (rI0 fun i j => .bl (g i j))) : OB X f x y (g x y) :=
  ob_flat o fun F H v u Q s r1 r2 q => ⟨x, y, r1, r2, q _ rfl⟩
theorem o_add {x y : Int} : OB X (binaryOp .Add) x y (x + y) := ob_I0 op_add
theorem o_sub {x y : Int} : OB X (binaryOp .Sub) x y (x - y) := ob_I0 op_sub
theorem o_mul {x y : Int} (h : CMul x y) : OB X (binaryOp .Mult) x y (x * y) := ob_I op_mul h
theorem o_mod {x y : Int} (h : 0 < y) : OB X (binaryOp .Mod) x y (x % y) := ob_I op_mod h
theorem o_div {x y : Int} (h : CDivW x y) : OB X (binaryOp .FloorDiv) x y (x / y) := ob_I op_fdivW h
theorem o_lt {x y : Int} : OB X (compareOp .Lt) x y (decide (x < y)) := ob_B0 op_lt
theorem o_le {x y : Int} : OB X (compareOp .LtE) x y (decide (x ≤ y)) := ob_B0 op_le
theorem o_gt {x y : Int} : OB X (compareOp .Gt) x y (decide (y < x)) := ob_B0 op_gt
theorem o_ge {x y : Int} : OB X (compareOp .GtE) x y (decide (y ≤ x)) := ob_B0 op_ge
theorem o_eq {x y : Int} : OB X (compareOp .Eq) x y (decide (x = y)) := ob_flat op_eq fun F H v u Q s r1 r2 q => by
  obtain rfl : v = .int x := r1
  obtain rfl : u = .int y := r2
  exact ⟨rfl, q _ (show V.bl _ = V.bl _ by rw [dec_int, Bool.beq_eq_decide_eq])⟩
theorem o_ne {x y : Int} : OB X (compareOp .NotEq) x y (!decide (x = y)) := ob_flat op_ne fun F H v u Q s r1 r2 q => by
  obtain rfl : v = .int x := r1
  obtain rfl : u = .int y := r2
  exact ⟨rfl, q _ (show V.bl _ = V.bl _ by rw [dec_int, Bool.beq_eq_decide_eq])⟩
theorem dec_sx {x y : Tx} : decide (V.str (sx x) = V.str (sx y)) = decide (x = y) := by
  by_cases h : x = y
  · subst h; rw [decide_eq_true rfl, decide_eq_true rfl]
  · rw [decide_eq_false h, decide_eq_false fun z => h (sx_inj (V.str.inj z))]
theorem o_eqS {x y : Tx} : OB X (compareOp .Eq) x y (decide (x = y)) := ob_flat op_eq fun F H v u Q s r1 r2 q => by
  obtain rfl : v = .str (sx x) := r1
  obtain rfl : u = .str (sx y) := r2
  exact ⟨rfl, q _ (show V.bl _ = V.bl _ by rw [dec_sx])⟩
theorem o_addS {x y : Tx} (h : x.length + y.length ≤ sizeLine) : OB X (binaryOp .Add) x y (x ++ y) := ob_flat op_add_str fun F H v u Q s r1 r2 q => by
  obtain rfl : v = .str (sx x) := r1
  obtain rfl : u = .str (sx y) := r2
  exact ⟨_, _, rfl, rfl, by rw [sx_len, sx_len]; exact h, q _ (by rw [sx_app]; rfl)⟩
theorem et_not {k : Bool} (h : ET X Γ a k) : ET X Γ (.UnaryOp .Not a pos) (!k) := fun B F H σ Q L q =>
  WT.of (pt_not ptW) (h B F H σ _ L fun F1 H1 e1 => q F1 H1 e1)
structure WW (X : Cx) (e : Expr) (σ : L2.St) (H : Hp) (Q : Bool → Hp → Prop) : Prop where
  go : ∀ whole pins s, Inv X pins σ H s → wpAny (model X.prog X.w) X.A (isTrue e X.env whole) (TP X pins σ Q) X.xe s
theorem pwW : PW X e (WW X e) := ⟨fun whole pins s _ _ _ I h => h.go whole pins s I⟩
noncomputable def EW (X : Cx) (Γ : List Slot) (e : Expr) (k : Bool) : Prop := ∀ B F H σ Q, Lc X.K B F H σ Γ → (∀ F' H', Ext F H F' H' → Q k H') → WW X e σ H Q
theorem WW.of {t : TT} {σ : L2.St} {H : Hp} {Q : Bool → Hp → Prop} (p : PW X e t) (h : t σ H Q) : WW X e σ H Q := ⟨fun whole pins s I => p.run whole pins s σ H Q I h⟩
theorem et_w {k : Bool} (h : EW X Γ e k) : ET X Γ e k := fun B F H σ Q L q => WT.of (PW.pt pwW) (h B F H σ Q L q)
theorem ew_and1 {k : Bool} (h : ET X Γ a k) : EW X Γ (.BoolOp .And [a] pos) k := fun B F H σ Q L q => WW.of (pw_and1 ptW) (h B F H σ Q L q)
theorem ew_or1 {k : Bool} (h : ET X Γ a k) : EW X Γ (.BoolOp .Or [a] pos) k := fun B F H σ Q L q => WW.of (pw_or1 ptW) (h B F H σ Q L q)
theorem ew_and {k m : Bool} (ha : ET X Γ a k) (hb : k = true → EW X Γ (.BoolOp .And (b :: es) pos) m) : EW X Γ (.BoolOp .And (a :: b :: es) pos) (k && m) := fun B F H σ Q L q =>
  WW.of (pw_and ptW pwW) (ha B F H σ _ L fun F1 H1 e1 => by
    cases k with
    | true => exact hb rfl B F1 H1 σ Q (L.step e1) fun F2 H2 e2 => by rw [Bool.true_and] at q; exact q F2 H2 (e1.trans e2)
    | false => exact q F1 H1 e1)
theorem ew_or {k m : Bool} (ha : ET X Γ a k) (hb : k = false → EW X Γ (.BoolOp .Or (b :: es) pos) m) : EW X Γ (.BoolOp .Or (a :: b :: es) pos) (k || m) := fun B F H σ Q L q =>
  WW.of (pw_or ptW pwW) (ha B F H σ _ L fun F1 H1 e1 => by
    cases k with
    | false => exact hb rfl B F1 H1 σ Q (L.step e1) fun F2 H2 e2 => by rw [Bool.false_or] at q; exact q F2 H2 (e1.trans e2)
    | true => exact q F1 H1 e1)
theorem et_and {k m : Bool} (ha : ET X Γ a k) (hb : k = true → ET X Γ b m) : ET X Γ (.BoolOp .And [a, b] pos) (k && m) := et_w (ew_and ha fun h => ew_and1 (hb h))
theorem et_or {k m : Bool} (ha : ET X Γ a k) (hb : k = false → ET X Γ b m) : ET X Γ (.BoolOp .Or [a, b] pos) (k || m) := et_w (ew_or ha fun h => ew_or1 (hb h))
theorem et_or3 {k m n : Bool} (ha : ET X Γ a k) (hb : k = false → ET X Γ b m) (hc : k = false → m = false → ET X Γ c n) : ET X Γ (.BoolOp .Or [a, b, c] pos) (k || (m || n)) := et_w (ew_or ha fun h => ew_or (hb h) fun h2 => ew_or1 (hc h h2))
theorem ev_one {op} {x : α} (h : EV X Γ a x) : EV X Γ (.BoolOp op [a] pos) x := fun B F H σ Q L q => WE.of (pe_one peW) (h B F H σ Q L q)
theorem ev_and {k m : Bool} (ha : EV X Γ a k) (hb : k = true → EV X Γ (.BoolOp .And (b :: es) pos) m) : EV X Γ (.BoolOp .And (a :: b :: es) pos) (k && m) := fun B F H σ Q L q =>
  WE.of (pe_and peW peW) (ha B F H σ _ L fun v F1 H1 e1 r1 => ⟨k, r1, by
    cases k with
    | true => exact hb rfl B F1 H1 σ Q (L.step e1) fun v F2 H2 e2 r2 => by rw [Bool.true_and] at q; exact q v F2 H2 (e1.trans e2) r2
    | false => exact q _ F1 H1 e1 rfl⟩)
theorem ev_and2 {k m : Bool} (ha : EV X Γ a k) (hb : k = true → EV X Γ b m) : EV X Γ (.BoolOp .And [a, b] pos) (k && m) := ev_and ha fun h => ev_one (hb h)
theorem ea_nil : EA X Γ [] [] := fun B F H σ Q L q => WA.of pa_nil (q [] F H (Ext.refl L.same) trivial)
theorem ea_cons {x : α} {A : List Slot} (h : EV X Γ e x) (hr : EA X Γ es A) (hs : autoParam (starEach (e :: es) X.env = (false, eval e X.env) :: starEach es X.env) aStar) : EA X Γ (e :: es) (.val i x :: A) := fun B F H σ Q L q =>
  WA.of (pa_cons peW paW hs) (h B F H σ _ L fun v F1 H1 e1 r1 => hr B F1 H1 σ _ (L.step e1) fun vs F2 H2 e2 r2 => q (v :: vs) F2 H2 (e1.trans e2) ⟨i.mono e2.ff r1, r2⟩)
noncomputable def EAs (X : Cx) (Γ : List Slot) (es : List Expr) {α : Type} [i : Rep α] (xs : List α) : Prop :=
  ∀ B F H σ Q, Lc X.K B F H σ Γ → (∀ vs F' H', Ext F H F' H' → Paired (fun u x => i.rp X.K F' u x) vs xs → Q vs H') → WA X es σ H Q
theorem es_nil : EAs X Γ [] ([] : List α) := fun B F H σ Q L q => WA.of pa_nil (q [] F H (Ext.refl L.same) .nil)
theorem es_cons {x : α} {xs : List α} (h : EV X Γ e x) (hr : EAs X Γ es xs) (hs : autoParam (starEach (e :: es) X.env = (false, eval e X.env) :: starEach es X.env) aStar) : EAs X Γ (e :: es) (x :: xs) := fun B F H σ Q L q =>
  WA.of (pa_cons peW paW hs) (h B F H σ _ L fun v F1 H1 e1 r1 => hr B F1 H1 σ _ (L.step e1) fun vs F2 H2 e2 r2 => q (v :: vs) F2 H2 (e1.trans e2) (.cons (i.mono e2.ff r1) r2))
theorem en_lst {xs : List α} (h : EAs X Γ es xs) (hz : xs.length ≤ sizeLine := by exact sl_small (by simp)) : EN X Γ (.List es pos) xs := fun B F H σ Q L q =>
  WE.of (pe_lst paW) (h B F H σ _ L fun vs F1 H1 e1 r1 => ⟨by rw [Paired.length r1]; exact hz, fun p hp => by
    have s1 := (L.step e1).same
    have ea := Ext.apart (o := .lst vs) s1 hp
    exact q p vs F1 _ (e1.trans ea) (e1.hs.free hp) (s1.free hp) upd_same r1⟩)
theorem ev_tupH {x1} {xs : List α} (h : EAs X Γ es xs) (hz : xs.length ≤ sizeLine := by exact sl_small (by simp)) : EV X Γ (.Tuple es x1 pos) (Tup.mk xs) := fun B F H σ Q L q =>
  WE.of (pe_tup paW) (h B F H σ _ L fun vs F1 H1 e1 r1 => ⟨by rw [Paired.length r1]; exact hz, fun p hp => by
    have s1 := (L.step e1).same
    have ea := Ext.new (o := .tup vs) s1 hp
    exact q (.ref p) _ _ (e1.trans ea) ⟨p, vs, rfl, upd_same, Paired.mapP r1 fun _ _ z => i.mono ea.ff z⟩⟩)
theorem ev_pair {x1} {x : α} {y : β} (ha : EV X Γ a x) (hb : EV X Γ b y) (hs : autoParam (starEach [a, b] X.env = (false, eval a X.env) :: starEach [b] X.env) aStar) (hs2 : autoParam (starEach [b] X.env = (false, eval b X.env) :: starEach [] X.env) aStar) : EV X Γ (.Tuple [a, b] x1 pos) (x, y) := fun B F H σ Q L q =>
  WE.of (pe_tup paW) (ea_cons ha (ea_cons hb ea_nil hs2) hs B F H σ _ L fun vs F1 H1 e1 r1 => by
    match vs, r1 with
    | [v, u], ⟨h1, h2, _⟩ =>
      exact ⟨by show 2 ≤ sizeLine; decide, fun p hp => by
        have s1 := (L.step e1).same
        have ea := Ext.new (o := .tup [v, u]) s1 hp
        exact q (.ref p) _ _ (e1.trans ea) ⟨p, v, u, rfl, upd_same, i.mono ea.ff h1, j.mono ea.ff h2⟩⟩)
theorem sq_of {K : PySem.W.Frag} {F H : Hp} (s : Same F H) {a : Addr} {vs : List V} (h : F a = some (.lst vs)) : SqL K H a vs := .inl (.inl (s _ _ h))
theorem st_of {K : PySem.W.Frag} {F H : Hp} (s : Same F H) {a : Addr} {vs : List V} (h : F a = some (.tup vs)) : SqT K H a vs := .inl (.inl (s _ _ h))
theorem ev_callB1 {n : Str} {id : String} {x : α} {z : β} {r : List V → Hp → VK → Prop} (hc : CallR X (.builtin id) r) (hm : X.mg n = none) (hv : bootBuiltins n = some (.builtin id)) (h : EV X Γ e x)
    (hr : ∀ F H v Q, Same F H → i.rp X.K F v x → (∀ w F' H', Ext F H F' H' → j.rp X.K F' w z → Q w H') → r [v] H Q) (hg : autoParam (Gl X n) aRfl) (hn : autoParam (n ≠ "__name__") aDec) (hd : autoParam ((n == ("__debug__" : Str)) = false) aDec)
    (hs : autoParam (starEach [e] X.env = (false, eval e X.env) :: starEach [] X.env) aStar) (hpl : autoParam ((backTo pos (starEach [] X.env)).any (·.1) = false) aPl) : EV X Γ (.Call (.Name n p) [e] [] pos) z := fun B F H σ Q L q =>
  WE.of (pe_callB hc hg hm hv (pa_cons peW pa_nil hs) hn hd hs hpl) (h B F H σ _ L fun v F1 H1 e1 r1 => hr F1 H1 v Q (L.step e1).same r1 fun w F2 H2 e2 r2 => q w F2 H2 (e1.trans e2) r2)
theorem ev_callT1 {n : Str} {id : String} {x : α} {z : β} {r : List V → Hp → VK → Prop} (hc : CallR X (.type id) r) (hm : X.mg n = none) (hv : bootBuiltins n = some (.type id)) (h : EV X Γ e x)
    (hr : ∀ F H v Q, Same F H → i.rp X.K F v x → (∀ w F' H', Ext F H F' H' → j.rp X.K F' w z → Q w H') → r [v] H Q) (hg : autoParam (Gl X n) aRfl) (hn : autoParam (n ≠ "__name__") aDec) (hd : autoParam ((n == ("__debug__" : Str)) = false) aDec)
    (hs : autoParam (starEach [e] X.env = (false, eval e X.env) :: starEach [] X.env) aStar) (hpl : autoParam ((backTo pos (starEach [] X.env)).any (·.1) = false) aPl) : EV X Γ (.Call (.Name n p) [e] [] pos) z := fun B F H σ Q L q =>
  WE.of (pe_callTy hc hg hm hv (pa_cons peW pa_nil hs) hn hd hs hpl) (h B F H σ _ L fun v F1 H1 e1 r1 => hr F1 H1 v Q (L.step e1).same r1 fun w F2 H2 e2 r2 => q w F2 H2 (e1.trans e2) r2)
theorem ev_len {xs : List α} (hm : X.mg "len" = none) (h : EV X Γ e xs) (hg : autoParam (Gl X "len") aRfl) (hs : autoParam (starEach [e] X.env = (false, eval e X.env) :: starEach [] X.env) aStar) (hpl : autoParam ((backTo pos (starEach [] X.env)).any (·.1) = false) aPl) :
    EV X Γ (.Call (.Name "len" p) [e] [] pos) (xs.length : Int) :=
  ev_callB1 call_len_seq hm PySem.boot_len h (fun F H v Q s r q => by
    obtain ⟨a, vs, rfl, ha, pr⟩ := r
    exact ⟨a, vs, rfl, .inl (sq_of s ha), q _ F H (Ext.refl s) (by rw [Paired.length pr]; rfl)⟩) hg (by decide) (by decide) hs hpl
theorem ev_lenScr {xs : Scr} (hm : X.mg "len" = none) (h : EV X Γ e xs) (hg : autoParam (Gl X "len") aRfl) (hs : autoParam (starEach [e] X.env = (false, eval e X.env) :: starEach [] X.env) aStar) (hpl : autoParam ((backTo pos (starEach [] X.env)).any (·.1) = false) aPl) :
    EV X Γ (.Call (.Name "len" p) [e] [] pos) (xs.l.length : Int) :=
  ev_callB1 call_len_seq hm PySem.boot_len h (fun F H v Q s r q => by
    obtain ⟨a, rfl, ha⟩ := r
    exact ⟨a, _, rfl, .inl (s.seq ha), q _ F H (Ext.refl s) (by rw [List.length_map]; rfl)⟩) hg (by decide) (by decide) hs hpl
theorem ev_lenS {x : Tx} (hm : X.mg "len" = none) (h : EV X Γ e x) (hz : x.length ≤ sizeLine) (hg : autoParam (Gl X "len") aRfl) (hs : autoParam (starEach [e] X.env = (false, eval e X.env) :: starEach [] X.env) aStar) (hpl : autoParam ((backTo pos (starEach [] X.env)).any (·.1) = false) aPl) :
    EV X Γ (.Call (.Name "len" p) [e] [] pos) (x.length : Int) :=
  ev_callB1 call_len_str hm PySem.boot_len h (fun F H v Q s r q => ⟨sx x, by rw [show v = V.str (sx x) from r], by rw [sx_len]; exact hz, q _ F H (Ext.refl s) (by rw [sx_len]; rfl)⟩) hg (by decide) (by decide) hs hpl
theorem ev_ixL {xs : List α} {n : Int} {x : α} (ha : EV X Γ a xs) (hb : EV X Γ b n) (hx : atI xs n = some x) (hp : autoParam (PlainIx b) Tw.aIR2) : EV X Γ (.Subscript a b pos) x := fun B F H σ Q L q =>
  WE.of (pe_ix ix_list peW peW hp) (ha B F H σ _ L fun v F1 H1 e1 r1 => hb B F1 H1 σ _ (L.step e1) fun u F2 H2 e2 r2 => by
    obtain ⟨ad, vs, rfl, h1, pr⟩ := r1
    obtain ⟨k, hk, hx⟩ := Option.bind_eq_some_iff.mp hx
    obtain ⟨w, hw, rw'⟩ := pgetL pr hx
    have s2 := (L.step (e1.trans e2)).same
    exact ⟨ad, vs, n, w, rfl, r2, sq_of s2 (e2.ff _ _ h1), by unfold atI; rw [Paired.length pr, hk]; exact hw, q w F2 H2 (e1.trans e2) (i.mono e2.ff rw')⟩)
theorem ev_ixT {xs : Tup α} {n : Int} {x : α} (ha : EV X Γ a xs) (hb : EV X Γ b n) (hx : atI xs.l n = some x) (hp : autoParam (PlainIx b) Tw.aIR2) : EV X Γ (.Subscript a b pos) x := fun B F H σ Q L q =>
  WE.of (pe_ix ix_tup peW peW hp) (ha B F H σ _ L fun v F1 H1 e1 r1 => hb B F1 H1 σ _ (L.step e1) fun u F2 H2 e2 r2 => by
    obtain ⟨ad, vs, rfl, h1, pr⟩ := r1
    obtain ⟨k, hk, hx⟩ := Option.bind_eq_some_iff.mp hx
    obtain ⟨w, hw, rw'⟩ := pgetL pr hx
    have s2 := (L.step (e1.trans e2)).same
    exact ⟨ad, vs, n, w, rfl, r2, st_of s2 (e2.ff _ _ h1), by unfold atI; rw [Paired.length pr, hk]; exact hw, q w F2 H2 (e1.trans e2) (i.mono e2.ff rw')⟩)
theorem ev_ixScr {xs : Scr} {n : Int} {x : Int} (ha : EV X Γ a xs) (hb : EV X Γ b n) (hx : atI xs.l n = some x) (hp : autoParam (PlainIx b) Tw.aIR2) : EV X Γ (.Subscript a b pos) x := fun B F H σ Q L q =>
  WE.of (pe_ix ix_list peW peW hp) (ha B F H σ _ L fun v F1 H1 e1 r1 => hb B F1 H1 σ _ (L.step e1) fun u F2 H2 e2 r2 => by
    obtain ⟨ad, rfl, h1⟩ := r1
    obtain ⟨k, hk, hx⟩ := Option.bind_eq_some_iff.mp hx
    have s2 := (L.step (e1.trans e2)).same
    exact ⟨ad, _, n, .int x, rfl, r2, s2.seq (e2.ff.seq h1), by unfold atI; rw [List.length_map, hk]; show (xs.l.map V.int)[k]? = _; rw [List.getElem?_map, hx]; rfl, q _ F2 H2 (e1.trans e2) rfl⟩)
theorem ev_ixS {x : Tx} {n : Int} {z : Nat} (ha : EV X Γ a x) (hb : EV X Γ b n) (hx : atI x n = some z) (hz : x.length ≤ sizeLine) (hp : autoParam (PlainIx b) Tw.aIR2) : EV X Γ (.Subscript a b pos) ([z] : Tx) := fun B F H σ Q L q =>
  WE.of (pe_ix ix_str peW peW hp) (ha B F H σ _ L fun v F1 H1 e1 r1 => hb B F1 H1 σ _ (L.step e1) fun u F2 H2 e2 r2 =>
    ⟨sx x, n, z, r1, r2, by rw [sx_len]; exact hz, hx, q _ F2 H2 (e1.trans e2) rfl⟩)
noncomputable def EO (X : Cx) (Γ : List Slot) (e : Option Expr) (o : Option Int) : Prop := match e, o with
  | none, none => True
  | some e, some n => EV X Γ e n
  | _, _ => False
noncomputable def WO (X : Cx) (e : Option Expr) (Γ : List Slot) : TO := match e with
  | none => tNoPart
  | some e => tPart (WE X e)
theorem poW {e : Option Expr} : PO X e (WO X e Γ) := by
  cases e with
  | none => exact po_none
  | some e => exact po_some peW
theorem eo_run {e : Option Expr} {o : Option Int} (h : EO X Γ e o) {B : Bs} {F H : Hp} {σ : L2.St} {Q : Option Int → Hp → Prop} (L : Lc X.K B F H σ Γ) (q : ∀ F' H', Ext F H F' H' → Q o H') : WO X e Γ σ H Q := by
  cases e with
  | none =>
    cases o with
    | none => exact q F H (Ext.refl L.same)
    | some n => exact h.elim
  | some e =>
    cases o with
    | none => exact h.elim
    | some n => exact h B F H σ _ L fun v F1 H1 e1 r1 => ⟨n, r1, q F1 H1 e1⟩
noncomputable def cutL {A : Type} (xs : List A) (lo hi : Option Int) : List A := (xs.drop (HT.sIx xs.length 0 lo)).take (HT.sIx xs.length xs.length hi - HT.sIx xs.length 0 lo)
theorem en_sliceL {p2 : Pos} {lo hi : Option Expr} {o1 o2 : Option Int} {xs : List α} (ha : EV X Γ a xs) (hl : EO X Γ lo o1) (hh : EO X Γ hi o2) : EN X Γ (.Subscript a (.Slice lo hi none p2) pos) (cutL xs o1 o2) := fun B F H σ Q L q =>
  WE.of (pe_slice sl_list peW (poW (Γ := Γ)) (poW (Γ := Γ))) (ha B F H σ _ L fun v F1 H1 e1 r1 => eo_run hl (L.step e1) fun F2 H2 e2 => eo_run hh (L.step (e1.trans e2)) fun F3 H3 e3 => by
    obtain ⟨ad, vs, rfl, h1, pr⟩ := r1
    have e123 := (e1.trans e2).trans e3
    have s3 := (L.step e123).same
    have e23 := e2.trans e3
    refine ⟨ad, vs, rfl, sq_of s3 (e23.ff _ _ h1), fun p hp => ?_⟩
    refine q p _ F3 _ (e123.trans (Ext.apart s3 hp)) (e123.hs.free hp) (s3.free hp) upd_same ?_
    unfold cutV cutL
    rw [Paired.length pr]
    exact ptake _ (pdrop _ (Paired.mapP pr fun _ _ z => i.mono e23.ff z)))
theorem ev_sliceS {p2 : Pos} {lo hi : Option Expr} {o1 o2 : Option Int} {x : Tx} (ha : EV X Γ a x) (hl : EO X Γ lo o1) (hh : EO X Γ hi o2) (hz : x.length ≤ sizeLine) : EV X Γ (.Subscript a (.Slice lo hi none p2) pos) (cutL x o1 o2) := fun B F H σ Q L q =>
  WE.of (pe_slice sl_str peW (poW (Γ := Γ)) (poW (Γ := Γ))) (ha B F H σ _ L fun v F1 H1 e1 r1 => eo_run hl (L.step e1) fun F2 H2 e2 => eo_run hh (L.step (e1.trans e2)) fun F3 H3 e3 =>
    ⟨sx x, r1, by rw [sx_len]; exact hz, q _ F3 H3 ((e1.trans e2).trans e3) (congrArg V.str (by
      unfold cutS cutL
      rw [sx_len]
      rfl))⟩)
end
end Tw
namespace Tw
open PySem PySem.Spec PyProof.Rows L2 TL
section
variable {X : Cx} {Γ : List Slot} {α β γ : Type} {i : Rep α} {j : Rep β} {l : Rep γ} {pos p : Pos} {e a b c : Expr} {es : List Expr} {E : SE} {rest body : List Stmt}
theorem ED.seq {B : Bs} {F0 : Hp} {D : Ends} (ed : ED X B F0 E D) : ED X B F0 { E with nx := fun Γ' => ST X rest Γ' E } { D with nx := fun σ' H' => WP X rest D σ' H' } :=
  ⟨fun F H σ Γ s h L => h B F H σ D L (ed.weak s), ed.rt, ed.bk, ed.ct, ed.ex⟩
theorem st_nil (h : E.nx Γ) : ST X [] Γ E := fun B F H σ D L ed => WP.of pss_nil (ed.nx F H σ Γ (Same.refl F) h L)
theorem st_set (k : Nat) {n : Str} {x : α} (he : EV X Γ e x) (hr : ST X rest (Γ.set k (.val i x)) E) (hN : X.N.Nodup) (hi : autoParam (X.N[k]? = some n) aRfl) (hx : autoParam (L2.Loc X.env.scope n) aLoc)
    (hs : autoParam (swapsWith e (some (.Name n p)) pos.line X.env = pure false) aRfl) (hf : autoParam (X.fn n = true ∨ X.env.scope.names.lookup n = some .local) Tw.aFn) : ST X (.Assign [.Name n p] e pos :: rest) Γ E := fun B F H σ D L ed =>
  WP.cons (ps_set hN hi hx peW hs hf) (he B F H σ _ L fun v F1 H1 e1 r1 => hr B F1 H1 _ D ((L.step e1).putV k r1) (ed.weak e1.ff))
theorem st_setN (k : Nat) {n : Str} {xs : List α} (he : EN X Γ e xs) (hr : ∀ ad, ST X rest (Γ.set k (.lst i ad xs)) E) (hN : X.N.Nodup) (hi : autoParam (X.N[k]? = some n) aRfl) (hx : autoParam (L2.Loc X.env.scope n) aLoc)
    (hs : autoParam (swapsWith e (some (.Name n p)) pos.line X.env = pure false) aRfl) (hf : autoParam (X.fn n = true ∨ X.env.scope.names.lookup n = some .local) Tw.aFn) : ST X (.Assign [.Name n p] e pos :: rest) Γ E := fun B F H σ D L ed =>
  WP.cons (ps_set hN hi hx peW hs hf) (he B F H σ _ L fun ad vs F1 H1 e1 ha fa h1 pr => hr ad B F1 H1 _ D (L.putL k e1 ha fa h1 pr) (ed.weak e1.ff))
theorem st_ret {P : Ret → Prop} (he : EX X Γ e P) (hP : ∀ r, P r → E.rt r) : ST X (.Return (some e) pos :: rest) Γ E := fun B F H σ D L ed =>
  WP.cons (ps_ret peW) (he B F H σ _ L fun r v F1 H1 hr e1 ok => ed.rt r v F1 H1 (hP r hr) (L.step e1).ext (ok.imp fun b h => L.nw h))
theorem st_retV {x : α} (he : EV X Γ e x) (hP : E.rt (.val i x)) : ST X (.Return (some e) pos :: rest) Γ E := st_ret (P := fun r => r = .val i x) (ex_of_ev he rfl) fun r h => h ▸ hP
theorem st_retE {xs : List α} (he : EN X Γ e xs) (hP : E.rt (.new i xs)) : ST X (.Return (some e) pos :: rest) Γ E := st_ret (P := fun r => r = .new i xs) (ex_of_en he rfl) fun r h => h ▸ hP
theorem st_retL (k : Nat) {n : Str} {ad : Addr} {xs : List α} (hP : E.rt (.new i xs)) (hN : autoParam (X.N[k]? = some n) aRfl) (hv : autoParam (Vis X.env.scope n) aVis) (hd : autoParam ((n == ("__debug__" : Str)) = false) aDec)
    (hcd : autoParam ((n == ("__classdict__" : Str)) = false) aDec) (hg : autoParam (Γ[k]? = some (.lst i ad xs)) aRfl) : ST X (.Return (some (.Name n p)) pos :: rest) Γ E := fun B F H σ D L ed => by
  obtain ⟨vs, ea, fa, ba, ha, pr⟩ := slot_lst L hg
  exact WP.cons (ps_ret (pe_var hN hv hd hcd)) ⟨_, ea, ed.rt _ _ F H hP L.ext ⟨ad, vs, rfl, ba, fa, ha, pr⟩⟩
theorem st_if {k : Bool} {A C : List Stmt} (hc : ET X Γ c k) (hA : k = true → ST X A Γ { E with nx := fun Γ' => ST X rest Γ' E }) (hC : k = false → ST X C Γ { E with nx := fun Γ' => ST X rest Γ' E }) : ST X (.If c A C pos :: rest) Γ E := fun B F H σ D L ed =>
  WP.cons (ps_if ptW psW psW) (hc B F H σ _ L fun F1 H1 e1 => by
    cases k with
    | true => exact hA rfl B F1 H1 σ _ (L.step e1) ((ed.weak e1.ff).seq)
    | false => exact hC rfl B F1 H1 σ _ (L.step e1) ((ed.weak e1.ff).seq))
theorem st_drop {P : Ret → Prop} (he : EX X Γ e P) (hr : ST X rest Γ E) (hs : autoParam (swapsWith e none pos.line X.env = pure false) aRfl) : ST X (.Expr e pos :: rest) Γ E := fun B F H σ D L ed =>
  WP.cons (ps_expr peW hs) (he B F H σ _ L fun r v F1 H1 _ e1 _ => hr B F1 H1 σ D (L.step e1) (ed.weak e1.ff))
theorem st_append (k : Nat) {n : Str} {ad : Addr} {xs : List α} {x : α} {apos cpos : Pos} (he : EV X Γ e x) (hr : ST X rest (Γ.set k (.lst i ad (xs ++ [x]))) E) (hz : xs.length < sizeLine) (hg : autoParam (Γ[k]? = some (.lst i ad xs)) aRfl) (hN : autoParam (X.N[k]? = some n) aRfl)
    (hv : autoParam (Vis X.env.scope n) aVis) (hd : autoParam ((n == ("__debug__" : Str)) = false) aDec) (hcd : autoParam ((n == ("__classdict__" : Str)) = false) aDec)
    (hbase : autoParam (attributeBase (.Name n p) "append" X.env (eval (.Name n p) X.env) = eval (.Name n p) X.env) aRfl)
    (hfew : autoParam (((backTo cpos (starEach [e] X.env)).all (fun x => !x.1) && (backToKw cpos (keywordEach [] X.env)).all (fun x => x.1.isSome) && decide ([e].length + ([] : List Keyword).length + (if ([] : List Keyword).isEmpty then 0 else 1) < 30)) = true) aRfl)
    (hline : autoParam ((apos.endLine == cpos.line) = true) aRfl) (hs : autoParam (starEach [e] X.env = (false, eval e X.env) :: starEach [] X.env) aStar) (hplain : autoParam ((backTo cpos (starEach [] X.env)).any (·.1) = false) aRfl)
    (hsw : autoParam (swapsWith (.Call (.Attribute (.Name n p) "append" apos) [e] [] cpos) none pos.line X.env = pure false) aRfl) :
    ST X (.Expr (.Call (.Attribute (.Name n p) "append" apos) [e] [] cpos) pos :: rest) Γ E := fun B F H σ D L ed => by
  obtain ⟨vs, ea, fa, ba, ha, pr⟩ := slot_lst L hg
  refine WP.cons (ps_expr (pe_bm PySem.F.plainAttrs_list PySem.F.slot_list_append PySem.F.type_list_append mt_append (pe_var hN hv hd hcd) (pa_cons peW pa_nil hs) hbase hfew hline hs hplain) hsw) ?_
  refine ⟨_, ea, .inl ⟨rfl, _, .inl (.inl ha)⟩, he B F H σ _ L fun v F1 H1 e1 r1 => ?_⟩
  have L1 := L.step e1
  obtain ⟨vs1, _, _, _, ha1, pr1⟩ := slot_lst L1 hg
  refine ⟨ad, vs1, v, rfl, rfl, ha1, by rw [Paired.length pr1]; exact hz, ?_⟩
  exact hr B F1 _ σ D (L1.updL hg (papp pr1 (.cons r1 .nil))) (ed.weak e1.ff)
noncomputable def Yields (K : PySem.W.Frag) (J : It) (F1 : Hp) {α : Type} [i : Rep α] (xs : List α) : Prop :=
  ∀ F2 H2, Same F1 F2 → Same F2 H2 → (∀ (k : Nat) x, xs[k]? = some x → J.go k H2 ∧ ∀ v H3, J.yld k H2 v H3 → ∃ F3, Ext F2 H2 F3 H3 ∧ i.rp K F3 v x) ∧ J.stop xs.length H2
noncomputable def Src (X : Cx) (Γ : List Slot) (tg it : Expr) {α : Type} [i : Rep α] (xs : List α) : Prop :=
  ∃ wi, PI X tg it wi ∧ ∀ B F H σ R, Lc X.K B F H σ Γ → (∀ J F1 H1, Ext F H F1 H1 → Yields X.K J F1 xs → R J H1) → wi σ H R
variable {tg it : Expr}
theorem src_list {xs : List α} (h : EV X Γ it xs) : Src X Γ tg it xs := ⟨_, pi_list peW, fun B F H σ R L q => h B F H σ _ L fun v F1 H1 e1 r1 => by
  obtain ⟨ad, vs, rfl, ha, pr⟩ := r1
  refine ⟨ad, rfl, ⟨vs, sq_of (L.step e1).same ha⟩, q _ F1 H1 e1 fun F2 H2 s1 s2 => ⟨fun k x hx => ?_, vs, sq_of s2 (s1 _ _ ha), by rw [Paired.length pr]; exact Nat.le_refl _⟩⟩
  obtain ⟨w, hw, rw'⟩ := pgetL pr hx
  refine ⟨⟨vs, w, sq_of s2 (s1 _ _ ha), hw⟩, fun v H3 hy => ?_⟩
  obtain ⟨rfl, hy⟩ := hy
  have : v = w := Option.some.inj ((hy vs (sq_of s2 (s1 _ _ ha))).symm.trans hw)
  subst this
  exact ⟨F2, Ext.refl s2, i.mono s1 rw'⟩⟩
theorem src_tup {xs : Tup α} (h : EV X Γ it xs) : Src X Γ tg it xs.l := ⟨_, pi_tup peW, fun B F H σ R L q => h B F H σ _ L fun v F1 H1 e1 r1 => by
  obtain ⟨ad, vs, rfl, ha, pr⟩ := r1
  refine ⟨ad, rfl, ⟨vs, st_of (L.step e1).same ha⟩, q _ F1 H1 e1 fun F2 H2 s1 s2 => ⟨fun k x hx => ?_, vs, st_of s2 (s1 _ _ ha), by rw [Paired.length pr]; exact Nat.le_refl _⟩⟩
  obtain ⟨w, hw, rw'⟩ := pgetL pr hx
  refine ⟨⟨vs, w, st_of s2 (s1 _ _ ha), hw⟩, fun v H3 hy => ?_⟩
  obtain ⟨rfl, hy⟩ := hy
  have : v = w := Option.some.inj ((hy vs (st_of s2 (s1 _ _ ha))).symm.trans hw)
  subst this
  exact ⟨F2, Ext.refl s2, i.mono s1 rw'⟩⟩
theorem src_rev {xs : List α} {p2 : Pos} (hm : X.mg "reversed" = none) (h : EV X Γ it xs) (hg : autoParam (Gl X "reversed") aRfl) (hs : autoParam (starEach [it] X.env = [(false, eval it X.env)]) aStar) : Src X Γ tg (.Call (.Name "reversed" p) [it] [] p2) xs.reverse := ⟨_, pi_reversed hg hm (pa_cons peW pa_nil hs) hs, fun B F H σ R L q => h B F H σ _ L fun v F1 H1 e1 r1 => by
  obtain ⟨ad, vs, rfl, ha, pr⟩ := r1
  refine ⟨ad, vs, rfl, sq_of (L.step e1).same ha, q _ F1 H1 e1 fun F2 H2 s1 s2 => ⟨fun k x hx => ?_, by show vs.length ≤ _; rw [Paired.length pr, List.length_reverse]; exact Nat.le_refl _⟩⟩
  have hk : k < xs.length := by have := (List.getElem?_eq_some_iff.mp hx).1; simpa using this
  rw [List.getElem?_reverse hk] at hx
  obtain ⟨w, hw, rw'⟩ := pgetL pr hx
  rw [← Paired.length pr] at hw hk
  refine ⟨⟨hk, vs, w, sq_of s2 (s1 _ _ ha), hw⟩, fun v H3 hy => ?_⟩
  obtain ⟨rfl, hy⟩ := hy
  have : v = w := Option.some.inj ((hy vs (sq_of s2 (s1 _ _ ha))).symm.trans hw)
  subst this
  exact ⟨F2, Ext.refl s2, i.mono s1 rw'⟩⟩
theorem src_str {x : Tx} (h : EV X Γ it x) : Src X Γ tg it (x.map fun c => ([c] : Tx)) := ⟨_, pi_str peW, fun B F H σ R L q => h B F H σ _ L fun v F1 H1 e1 r1 => by
  obtain rfl : v = .str (sx x) := r1
  refine ⟨sx x, rfl, q _ F1 H1 e1 fun F2 H2 s1 s2 => ⟨fun k y hy => ?_, by show x.toArray.size ≤ _; simp⟩⟩
  have hk : k < x.length := by have := (List.getElem?_eq_some_iff.mp hy).1; simpa using this
  refine ⟨by show k < x.toArray.size; simpa using hk, fun v H3 hv => ?_⟩
  obtain ⟨rfl, c, hc, rfl⟩ := hv
  refine ⟨F2, Ext.refl s2, ?_⟩
  rw [List.getElem?_map] at hy
  have hc' : x[k]? = some c := by simpa [sx] using hc
  rw [hc'] at hy
  obtain rfl : ([c] : Tx) = y := Option.some.inj hy
  rfl⟩
noncomputable def rng (lo : Int) (n : Nat) : List Int := (List.range n).map fun (k : Nat) => lo + (k : Int)
theorem rng_get {lo : Int} {n k : Nat} {x : Int} (h : (rng lo n)[k]? = some x) : k < n ∧ x = lo + k := by
  unfold rng at h
  rw [List.getElem?_map] at h
  by_cases hk : k < n
  · rw [List.getElem?_range hk] at h
    exact ⟨hk, (Option.some.inj h).symm⟩
  · rw [List.getElem?_eq_none (by simpa using hk)] at h; cases h
theorem rng_len {lo : Int} {n : Nat} : (rng lo n).length = n := by unfold rng; simp
theorem yields_rng {K : PySem.W.Frag} {F1 : Hp} {lo : Int} {n : Nat} : Yields K (Itr lo n) F1 (rng lo n) := fun F2 H2 s1 s2 => ⟨fun k x hx => by
  obtain ⟨hk, rfl⟩ := rng_get hx
  exact ⟨hk, fun v H3 hy => by obtain ⟨rfl, rfl⟩ := hy; exact ⟨F2, Ext.refl s2, rfl⟩⟩, by show n ≤ _; rw [rng_len]; exact Nat.le_refl _⟩
theorem src_range {n : Int} {p2 : Pos} (hm : X.mg "range" = none) (h : EV X Γ it n) (h1 : -(2 ^ 62) ≤ n) (h2 : n < 2 ^ 62) (hg : autoParam (Gl X "range") aRfl) (hs : autoParam (starEach [it] X.env = [(false, eval it X.env)]) aStar) : Src X Γ tg (.Call (.Name "range" p) [it] [] p2) (rng 0 n.toNat) :=
  ⟨_, pi_range1 hg hm (pa_cons peW pa_nil hs) hs, fun B F H σ R L q => h B F H σ _ L fun v F1 H1 e1 r1 => by
    obtain rfl : v = .int n := r1
    exact ⟨n, rfl, h1, h2, q _ F1 H1 e1 yields_rng⟩⟩
theorem src_range2 {m n : Int} {p2 : Pos} (hm : X.mg "range" = none) (ha : EV X Γ a m) (hb : EV X Γ b n) (h : -(2 ^ 62) ≤ m ∧ m < 2 ^ 62 ∧ -(2 ^ 62) ≤ n ∧ n < 2 ^ 62) (hg : autoParam (Gl X "range") aRfl)
    (hs : autoParam (starEach [a, b] X.env = [(false, eval a X.env), (false, eval b X.env)]) aStar) (hs2 : autoParam (starEach [b] X.env = [(false, eval b X.env)]) aStar) : Src X Γ tg (.Call (.Name "range" p) [a, b] [] p2) (rng m (n - m).toNat) :=
  ⟨_, pi_range2 hg hm (pa_cons peW (pa_cons peW pa_nil hs2) (by rw [hs, hs2])) hs hs2, fun B F H σ R L q => ha B F H σ _ L fun v F1 H1 e1 r1 => hb B F1 H1 σ _ (L.step e1) fun u F2 H2 e2 r2 => by
    obtain rfl : v = .int m := r1
    obtain rfl : u = .int n := r2
    exact ⟨m, n, rfl, h, q _ F2 H2 (e1.trans e2) yields_rng⟩⟩
theorem wipe_get {σ : L2.St} {k : Nat} : ∀ vs : List Nat, (wipe σ vs)[k]? = if k ∈ vs then (σ[k]?).map (fun _ => none) else σ[k]?
  | [] => by simp [wipe]
  | v :: vs => by
    unfold wipe
    by_cases h : v = k
    · subst h
      rw [if_pos (List.mem_cons_self ..), List.getElem?_set]
      rw [if_pos rfl]
      by_cases hl : v < σ.length
      · rw [if_pos (by rw [wipe_length]; exact hl), List.getElem?_eq_getElem hl]; rfl
      · rw [if_neg (by rw [wipe_length]; exact hl), List.getElem?_eq_none (by omega)]; rfl
    · rw [List.getElem?_set_ne h, wipe_get vs]
      have : (k ∈ v :: vs) ↔ k ∈ vs := by simp [Ne.symm h]
      simp only [this]
theorem wipe_wipe (σ : L2.St) (vs : List Nat) : wipe (wipe σ vs) vs = wipe σ vs := by
  refine List.ext_getElem? fun k => ?_
  rw [wipe_get, wipe_get]
  split
  · cases σ[k]? <;> rfl
  · rfl
noncomputable def wipeS (Γ : List Slot) : List Nat → List Slot
  | [] => Γ
  | v :: vs => (wipeS Γ vs).set v .no
theorem Lc.wipe {K : PySem.W.Frag} {B : Bs} {F H : Hp} {σ : L2.St} {Γ : List Slot} (L : Lc K B F H σ Γ) : ∀ vs : List Nat, Lc K B F H (L2.wipe σ vs) (wipeS Γ vs)
  | [] => L
  | v :: vs => (L.wipe vs).putN v none
structure Tg (K : PySem.W.Frag) (g : TG) {α : Type} [i : Rep α] (bind : α → List Slot → List Slot) (vs : List Nat) : Prop where
  run : ∀ B F H σ Γ v x Q, Lc K B F H σ Γ → i.rp K F v x → (∀ σ2, Lc K B F H σ2 (bind x Γ) → wipe σ2 vs = wipe σ vs → Q σ2 H) → g v σ H Q
theorem tg_name {K : PySem.W.Frag} (k : Nat) : Tg K (gName k) (fun (x : α) Γ => Γ.set k (.val i x)) [k] := ⟨fun B F H σ Γ v x Q L r q => q _ (L.putV k r) (by show (σ.set k (some v)).set k none = σ.set k none; rw [List.set_set])⟩
theorem tg_pair {K : PySem.W.Frag} (k m : Nat) (hkm : k ≠ m) : Tg K (gTup K 2 (gCons (gName k) (gCons (gName m) gNil))) (fun (x : α × β) Γ => (Γ.set k (.val i x.1)).set m (.val j x.2)) [k, m] := ⟨fun B F H σ Γ v x Q L r q => by
  obtain ⟨ad, u, w, rfl, ha, r1, r2⟩ := r
  refine ⟨ad, [u, w], rfl, st_of L.same ha, rfl, u, [w], rfl, w, [], rfl, rfl, q _ ((L.putV k r1).putV m r2) ?_⟩
  show ((((σ.set k (some u)).set m (some w)).set m none).set k none) = (σ.set m none).set k none
  rw [List.set_set, List.set_comm _ _ hkm, List.set_set]⟩
theorem st_for {xs : List α} {bind : α → List Slot → List Slot} {vs : List Nat} {g : TG} (P : Nat → List Slot → Prop) (hS : Src X Γ tg it xs) (hT : Tg X.K g bind vs) (h0 : P 0 Γ)
    (hb : ∀ (k : Nat) x Γ', xs[k]? = some x → P k Γ' → ST X body (bind x Γ') { nx := P (k + 1), ct := P (k + 1), bk := fun Γ2 => ST X rest Γ2 E, rt := E.rt, ex := E.ex })
    (hd : ∀ Γ', P xs.length Γ' → ST X rest Γ' E) (hg : PG X tg g) (hp : autoParam (PassesOwn (model X.prog X.w) X.A X.env X.xe) Tw.aPass) (hc : autoParam (X.calm = true) aRfl) (hs : autoParam (∀ x, foldedSetIterable it X.env x = pure x) Tw.aIR1) :
    ST X (.For tg it body [] pos :: rest) Γ E := fun B F H σ D L ed => by
  obtain ⟨wi, hi, run⟩ := hS
  refine WP.cons (ps_for hp hc hi hg psW hs) (run B F H σ _ L fun J F1 H1 e1 Y => ?_)
  have L1 := L.step e1
  refine ⟨fun t m σ H => m = xs.length - t ∧ t ≤ xs.length ∧ ∃ F2 Γ', P t Γ' ∧ Same F1 F2 ∧ Lc X.K B F2 H σ Γ', ⟨xs.length, rfl, Nat.zero_le _, F1, Γ, h0, Same.refl _, L1⟩, ?_⟩
  rintro t m σ H ⟨rfl, ht, F2, Γ', hP, s12, L2⟩
  have Y2 := Y F2 H s12 L2.same
  by_cases hlt : t < xs.length
  · have hx : xs[t]? = some xs[t] := List.getElem?_eq_getElem hlt
    obtain ⟨go, yl⟩ := Y2.1 t _ hx
    refine .inr ⟨go, fun σ' H' => ∃ F3 Γ3, P (t + 1) Γ3 ∧ Same F1 F3 ∧ Lc X.K B F3 H' σ' Γ3, fun σ' H' h => ⟨xs.length - (t + 1), by omega, rfl, hlt, h⟩, fun v H3 hy => ?_⟩
    obtain ⟨F3, e3, r3⟩ := yl v H3 hy
    refine hT.run B F3 H3 σ Γ' v _ _ (L2.step e3) r3 fun σ2 L4 _ => ?_
    refine hb t _ Γ' hx hP B F3 H3 σ2 _ L4 ⟨fun F5 H5 σ5 Γ5 s5 h5 L5 => ?_, ed.rt, fun F5 H5 σ5 Γ5 s5 h5 L5 => h5 B F5 H5 σ5 D L5 (ed.weak (e1.ff.trans (s12.trans (e3.ff.trans s5)))), fun F5 H5 σ5 Γ5 s5 h5 L5 => ?_, fun F5 H5 σ5 Γ5 x u d s5 h5 L5 => ed.ex F5 H5 σ5 Γ5 x u d (e1.ff.trans (s12.trans (e3.ff.trans s5))) h5 L5⟩
    · exact ⟨F5, Γ5, h5, s12.trans (e3.ff.trans s5), L5⟩
    · exact ⟨F5, Γ5, h5, s12.trans (e3.ff.trans s5), L5⟩
  · have et : t = xs.length := by omega
    subst et
    exact .inl ⟨Y2.2, hd Γ' hP B F2 H σ D L2 (ed.weak (e1.ff.trans s12))⟩
end
end Tw
namespace Tw
open PySem PySem.Spec PyProof.Rows L2 TL
section
variable {X : Cx} {Γ : List Slot} {α β γ : Type} {i : Rep α} {j : Rep β} {l : Rep γ} {pos p : Pos} {e a b c elt tg it : Expr} {es : List Expr} {E : SE} {rest body : List Stmt}
noncomputable abbrev Blk (X : Cx) (scope : Scope) (s : Shared) (H : Hp) (C : Addr) (cl : List (Str × Addr)) (fp : List Addr) : Cx := X.blk s H scope (compEnvC scope cl C X.env) fp
noncomputable def tBlkE (X : Cx) (scope : Scope) (e : Expr) : TE := fun σ H Q => ∀ s H0 C cl fp, WE (Blk X scope s H0 C cl fp) e σ H Q
noncomputable def tBlkT (X : Cx) (scope : Scope) (e : Expr) : TT := fun σ H Q => ∀ s H0 C cl fp, WT (Blk X scope s H0 C cl fp) e σ H Q
theorem lc_run {scope : Scope} {xs : List α} {f : α → β} {q : α → Bool} {bind : α → List Slot → List Slot} {vs : List Nat} {g : TG} {tt : TT} {wi : TI} {B : Bs} {F H : Hp} {σ : L2.St} {Q : VK} (L : Lc X.K B F H σ Γ)
    (run : ∀ R, (∀ J F1 H1, Ext F H F1 H1 → Yields X.K J F1 xs → R J H1) → wi σ H R) (hT : Tg X.K g bind vs)
    (ht : ∀ x ∈ xs, ∀ B F H σ R, Lc X.K B F H σ (bind x (wipeS Γ vs)) → (∀ F' H', Ext F H F' H' → R (q x) H') → tt σ H R)
    (he : ∀ x ∈ xs, q x = true → ∀ s H C cl fp, EV (Blk X scope s H C cl fp) (bind x (wipeS Γ vs)) elt (f x)) (hz : xs.length ≤ sizeLine)
    (k : ∀ a vs F' H', Ext F H F' H' → H a = none → F' a = none → H' a = some (.lst vs) → Paired (fun u x => j.rp X.K F' u x) vs ((xs.filter q).map f) → Q (.ref a) H') : tLc wi g tt (tBlkE X scope elt) vs σ H Q := by
  refine run _ fun J F1 H1 e1 Y D hD => ?_
  have L1 := L.step e1
  refine ⟨fun t m H' => m = xs.length - t ∧ t ≤ xs.length ∧ ∃ F2 acc, Ext F1 H1 F2 H' ∧ F2 D = none ∧ H' D = some (.lst acc) ∧ acc.length ≤ t ∧ Paired (fun u x => j.rp X.K F2 u x) acc (((xs.take t).filter q).map f),
    ⟨xs.length, rfl, Nat.zero_le _, F1, [], Ext.apart L1.same hD, L1.same.free hD, upd_same, Nat.le_refl _, .nil⟩, ?_⟩
  rintro t m H2 ⟨rfl, ht', F2, acc, e2, fD, hD2, hl, pr⟩
  have Y2 := Y F2 H2 e2.ff e2.fh
  by_cases hlt : t < xs.length
  · have hx : xs[t]? = some xs[t] := List.getElem?_eq_getElem hlt
    have hmem : xs[t] ∈ xs := List.getElem_mem hlt
    obtain ⟨go, yl⟩ := Y2.1 t _ hx
    refine .inr ⟨go, fun H' => ∃ F3 acc, Ext F1 H1 F3 H' ∧ F3 D = none ∧ H' D = some (.lst acc) ∧ acc.length ≤ t + 1 ∧ Paired (fun u x => j.rp X.K F3 u x) acc (((xs.take (t + 1)).filter q).map f), fun H' h => ⟨xs.length - (t + 1), by omega, rfl, hlt, h⟩, fun v H3 hy => ?_⟩
    obtain ⟨F3, e3, r3⟩ := yl v H3 hy
    have L3 := ((L1.step e2).wipe vs).step e3
    refine hT.run B F3 H3 _ _ v _ _ L3 r3 fun σ2 L4 hw => ⟨by rw [hw, wipe_wipe], ?_⟩
    refine ht _ hmem B F3 H3 σ2 _ L4 fun F4 H4 e4 => ?_
    have e34 := e3.trans e4
    have fD4 : F4 D = none := e34.nw D fD (by rw [hD2]; exact fun z => nomatch z)
    have etake : xs.take (t + 1) = xs.take t ++ [xs[t]] := by rw [List.take_add_one, hx]; rfl
    by_cases hq : q xs[t] = true
    · rw [if_pos hq]
      intro s H0 C cl fp
      refine he _ hmem hq s H0 C cl fp B F4 H4 σ2 _ (L4.step e4) fun w F5 H5 e5 r5 => ?_
      have e345 := e34.trans e5
      have hD5 : H5 D = some (.lst acc) := e345.hs _ _ hD2
      have fD5 : F5 D = none := e345.nw D fD (by rw [hD2]; exact fun z => nomatch z)
      have e25 := e2.trans e345
      refine ⟨acc, hD5, by omega, F5, acc ++ [w], ⟨e25.ff, same_upd e25.fh fD5, fun b o nb ob => ?_, e25.nwM, fun _ z => z.elim⟩, fD5, upd_same, by simp; exact hl, ?_⟩
      · rw [upd_ne (ne_of_none ob hD)]; exact e25.hh b o nb ob
      · rw [etake, List.filter_append, List.map_append]
        have : ([xs[t]].filter q).map f = [f xs[t]] := by rw [List.filter_cons_of_pos hq]; rfl
        rw [this]
        exact papp (Paired.mapP pr fun _ _ z => j.mono e345.ff z) (.cons r5 .nil)
    · rw [if_neg hq]
      refine ⟨F4, acc, e2.trans e34, fD4, e34.hs _ _ hD2, by omega, ?_⟩
      rw [etake, List.filter_append, List.map_append]
      have : ([xs[t]].filter q).map f = [] := by rw [List.filter_cons_of_neg hq]; rfl
      rw [this, List.append_nil]
      exact Paired.mapP pr fun _ _ z => j.mono e34.ff z
  · have et : t = xs.length := by omega
    subst et
    refine .inl ⟨Y2.2, k D acc F2 H2 (e1.trans e2) (e1.hs.free hD) fD hD2 ?_⟩
    rw [List.take_length] at pr
    exact pr
theorem filter_yes {A : Type} (xs : List A) : xs.filter (fun _ => true) = xs := List.filter_eq_self.mpr fun _ _ => rfl
theorem en_lc {scope : Scope} {own : List (Str × Nat)} {xs : List α} {f : α → β} {bind : α → List Slot → List Slot} {g : TG} (hS : Src X Γ tg it xs) (hT : Tg X.K g bind (own.map (·.2))) (hg : ∀ s H C cl fp, PG (Blk X scope s H C cl fp) tg g)
    (he : ∀ x ∈ xs, ∀ s H C cl fp, EV (Blk X scope s H C cl fp) (bind x (wipeS Γ (own.map (·.2)))) elt (f x)) (hN : X.N.Nodup) (ok : BlkOk X.N X.env.scope scope own := by exact blkOk_by (by decide +kernel)) (hz : xs.length ≤ sizeLine)
    (hc : autoParam (X.calm = true) aRfl) (hs : autoParam (∀ x, foldedSetIterable it X.env x = pure x) Tw.aIR1) : EN X Γ (.ListComp elt [⟨tg, it, [], 0⟩] scope pos) (xs.map f) := fun B F H σ Q L k => by
  obtain ⟨wi, hi, run⟩ := hS
  refine WE.of (pe_lc (te := tBlkE X scope elt) hc hN hi ok hg (fun _ _ _ _ _ => pts_nil) (fun s H C cl fp => ⟨fun pins s' σ H' Q' I h => (h s H C cl fp).go pins s' I⟩) hs) ?_
  refine lc_run (q := fun _ => true) L (fun R => run B F H σ R L) hT (fun x _ B F H σ R L h => h F H (Ext.refl L.same)) (fun x hx _ => he x hx) hz fun a vs F' H' e1 ha fa h' pr => k a vs F' H' e1 ha fa h' ?_
  rw [filter_yes] at pr
  exact pr
theorem en_lcIf {scope : Scope} {own : List (Str × Nat)} {xs : List α} {f : α → β} {q : α → Bool} {bind : α → List Slot → List Slot} {g : TG} (hS : Src X Γ tg it xs) (hT : Tg X.K g bind (own.map (·.2))) (hg : ∀ s H C cl fp, PG (Blk X scope s H C cl fp) tg g)
    (ht : ∀ x ∈ xs, ∀ s H C cl fp, ET (Blk X scope s H C cl fp) (bind x (wipeS Γ (own.map (·.2)))) c (q x))
    (he : ∀ x ∈ xs, q x = true → ∀ s H C cl fp, EV (Blk X scope s H C cl fp) (bind x (wipeS Γ (own.map (·.2)))) elt (f x)) (hN : X.N.Nodup) (ok : BlkOk X.N X.env.scope scope own := by exact blkOk_by (by decide +kernel)) (hz : xs.length ≤ sizeLine)
    (hc : autoParam (X.calm = true) aRfl) (hs : autoParam (∀ x, foldedSetIterable it X.env x = pure x) Tw.aIR1) : EN X Γ (.ListComp elt [⟨tg, it, [c], 0⟩] scope pos) ((xs.filter q).map f) := fun B F H σ Q L k => by
  obtain ⟨wi, hi, run⟩ := hS
  refine WE.of (pe_lc (te := tBlkE X scope elt) (tt := tBlkT X scope c) hc hN hi ok hg (fun s H C cl fp => pts_one ⟨fun pins s' σ H' Q' I h => (h s H C cl fp).go pins s' I⟩) (fun s H C cl fp => ⟨fun pins s' σ H' Q' I h => (h s H C cl fp).go pins s' I⟩) hs) ?_
  exact lc_run L (fun R => run B F H σ R L) hT (fun x hx B F H σ R L h => fun s H0 C cl fp => ht x hx s H0 C cl fp B F H σ R L h) he hz k
theorem st_setLc (m : Nat) {y : Str} {py spos : Pos} {scope : Scope} {own : List (Str × Nat)} {xs : List α} {f : α → β} {bind : α → List Slot → List Slot} {g : TG} (hS : Src X Γ tg it xs) (hT : Tg X.K g bind (own.map (·.2))) (hg : ∀ s H C cl fp, PG (Blk X scope s H C cl fp) tg g)
    (he : ∀ x ∈ xs, ∀ s H C cl fp, EV (Blk X scope s H C cl fp) (bind x (wipeS Γ (own.map (·.2)))) elt (f x)) (hN : X.N.Nodup) (hz : xs.length ≤ sizeLine) (hr : ∀ ad, ST X rest (Γ.set m (.lst j ad (xs.map f))) E)
    (ok : BlkOk X.N X.env.scope scope own := by exact blkOk_by (by decide +kernel)) (hy : autoParam (X.N[m]? = some y) aRfl) (hyl : autoParam (X.env.scope.names.lookup y = some .local) aRfl)
    (hsw : swapsWith (.ListComp elt [⟨tg, it, [], 0⟩] scope pos) (some (.Name y py)) spos.line X.env = pure true := by exact sw_true rfl rfl rfl (by decide +kernel))
    (hc : autoParam (X.calm = true) aRfl) (hs : autoParam (∀ x, foldedSetIterable it X.env x = pure x) Tw.aIR1) : ST X (.Assign [.Name y py] (.ListComp elt [⟨tg, it, [], 0⟩] scope pos) spos :: rest) Γ E := fun B F H σ D L ed => by
  obtain ⟨wi, hi, run⟩ := hS
  refine WP.cons (ps_setLc (te := tBlkE X scope elt) hc hN hy hyl hsw hi ok hg (fun _ _ _ _ _ => pts_nil) (fun s H C cl fp => ⟨fun pins s' σ H' Q' I h => (h s H C cl fp).go pins s' I⟩) hs) ?_
  refine lc_run (q := fun _ => true) L (fun R => run B F H σ R L) hT (fun x _ B F H σ R L h => h F H (Ext.refl L.same)) (fun x hx _ => he x hx) hz fun a vs F' H' e1 ha fa h' pr => ?_
  rw [filter_yes] at pr
  exact hr a B F' H' _ D (L.putL m e1 ha fa h' pr) (ed.weak e1.ff)
theorem ev_join {o : Expr} {sep : Tx} {xs : List Tx} {apos : Pos} (ho : EV X Γ o sep) (h : EV X Γ e xs) (hz : (xs.map (·.length)).sum + xs.length * sep.length ≤ 16777216) (hs : autoParam (starEach [e] X.env = [(false, eval e X.env)]) aStar)
    (hbase : autoParam (attributeBase o "join" X.env (eval o X.env) = eval o X.env) aRfl) (hline : autoParam ((apos.endLine == pos.line) = true) aRfl) : EV X Γ (.Call (.Attribute o "join" apos) [e] [] pos) (joinL sep xs) := fun B F H σ Q L q =>
  WE.of (pe_join peW peW hs hbase hline) (ho B F H σ _ L fun v F1 H1 e1 r1 => ⟨⟨_, r1⟩, h B F1 H1 σ _ (L.step e1) fun u F2 H2 e2 r2 => by
    obtain ⟨ad, vs, rfl, ha, pr⟩ := r2
    have s2 := (L.step (e1.trans e2)).same
    refine ⟨sx sep, ad, xs.map sx, r1, rfl, .inl (by rw [← Rps.strs pr]; exact sq_of s2 ha), ?_, q _ F2 H2 (e1.trans e2) (congrArg V.str ?_)⟩
    · rw [List.map_map, List.length_map, sx_len]
      have : ((fun y : Str => y.length) ∘ sx) = (fun x : Tx => x.length) := funext fun x => sx_len x
      rw [this]; exact hz
    · rw [join_eq]
      refine ext_tl ?_
      rw [tl_join, List.map_map]
      have : (tl ∘ sx) = (id : Tx → Tx) := funext fun x => tl_sx x
      rw [this, List.map_id]
      rfl⟩)
theorem joinL_one {x : Tx} : joinL [] (x.map fun c => ([c] : Tx)) = x := by
  have : ∀ (y : List Tx), joinL [] y = y.flatten := by
    intro y
    induction y with
    | nil => rfl
    | cons a r ih =>
      cases r with
      | nil => simp [joinL]
      | cons b r => rw [joinL, ih]; simp
  rw [this]
  induction x with
  | nil => rfl
  | cons a r ih => rw [List.map_cons, List.flatten_cons, ih]; rfl
theorem ev_joinRev {o : Expr} {x : Tx} {apos pos2 : Pos} (hm : X.mg "reversed" = none) (ho : EV X Γ o ([] : Tx)) (h : EV X Γ e x) (hz : x.length ≤ 16777216) (hg : autoParam (Gl X "reversed") aRfl) (hc : autoParam (X.calm = true) aRfl)
    (hs1 : autoParam (starEach [.Call (.Name "reversed" p) [e] [] pos2] X.env = [(false, eval (.Call (.Name "reversed" p) [e] [] pos2) X.env)]) aStar) (hs : autoParam (starEach [e] X.env = (false, eval e X.env) :: starEach [] X.env) aStar)
    (hbase : autoParam (attributeBase o "join" X.env (eval o X.env) = eval o X.env) aRfl) (hline : autoParam ((apos.endLine == pos.line) = true) aRfl) : EV X Γ (.Call (.Attribute o "join" apos) [.Call (.Name "reversed" p) [e] [] pos2] [] pos) (x.reverse) := fun B F H σ Q L q =>
  WE.of (pe_joinRev hc peW hg hm peW hs1 hs hbase hline) (ho B F H σ _ L fun v F1 H1 e1 r1 => ⟨⟨_, r1⟩, h B F1 H1 σ _ (L.step e1) fun u F2 H2 e2 r2 => by
    refine ⟨sx [], sx x, r1, r2, ?_, ?_, q _ F2 H2 (e1.trans e2) (congrArg V.str ?_)⟩
    · rw [sx_len]; exact Nat.le_trans hz (by decide)
    · rw [sx_len, sx_len]; show x.length + x.length * 0 ≤ _; omega
    · rw [join_eq]
      refine ext_tl ?_
      rw [tl_join, List.map_map]
      show joinL [] (x.reverse.map (tl ∘ RevS.one)) = _
      have : (tl ∘ RevS.one) = fun c => ([c] : Tx) := rfl
      rw [this, joinL_one]
      rfl⟩)
theorem en_list {xs : List α} (hm : X.mg "list" = none) (h : EV X Γ e xs) (hg : autoParam (Gl X "list") aRfl) (hs : autoParam (starEach [e] X.env = (false, eval e X.env) :: starEach [] X.env) aStar) (hpl : autoParam ((backTo pos (starEach [] X.env)).any (·.1) = false) aPl) :
    EN X Γ (.Call (.Name "list" p) [e] [] pos) xs := fun B F H σ Q L q =>
  WE.of (pe_callTy call_list_of hg hm (by decide +kernel) (pa_cons peW pa_nil hs) (by decide) (by decide) hs hpl) (h B F H σ _ L fun v F1 H1 e1 r1 => by
    obtain ⟨ad, vs, rfl, ha, pr⟩ := r1
    have s1 := (L.step e1).same
    exact ⟨ad, vs, rfl, .inl (sq_of s1 ha), fun q' hq => q q' vs F1 _ (e1.trans (Ext.apart s1 hq)) (e1.hs.free hq) (s1.free hq) upd_same pr⟩)
class Flat (α : Type) [i : Rep α] : Prop where
  fl : ∀ {K F F' v} {x : α}, i.rp K F v x → i.rp K F' v x
noncomputable instance : Flat Int := ⟨fun h => h⟩
noncomputable instance : Flat Bool := ⟨fun h => h⟩
noncomputable instance : Flat Unit := ⟨fun h => h⟩
noncomputable instance : Flat (List Nat) := ⟨fun h => h⟩
noncomputable def frz (F H : Hp) (ps : List Addr) : Hp := fun b => if b ∈ ps then H b else F b
theorem frz_in {F H : Hp} {ps : List Addr} {b : Addr} (h : b ∈ ps) : frz F H ps b = H b := if_pos h
theorem frz_out {F H : Hp} {ps : List Addr} {b : Addr} (h : b ∉ ps) : frz F H ps b = F b := if_neg h
theorem frz_le {F H : Hp} {ps : List Addr} (f : ∀ b ∈ ps, F b = none) : Same F (frz F H ps) := fun b u e => by
  rw [frz_out (fun hb => by rw [f b hb] at e; cases e)]; exact e
theorem frz_same {F H : Hp} {ps : List Addr} (s : Same F H) : Same (frz F H ps) H := fun b u e => by
  by_cases hb : b ∈ ps
  · rw [frz_in hb] at e; exact e
  · rw [frz_out hb] at e; exact s _ _ e
noncomputable def Froz (o : Own) {α : Type} [i : Rep α] (x : α) : Prop := ∀ {K : PySem.W.Frag} {F H : Hp} {v : V}, Same F H → o.ok K F H v → (∀ b ∈ o.fp, F b = none) → i.rp K (frz F H o.fp) v x
theorem frozL {a : Addr} {xs : List α} : Froz (ownL i a xs) xs := fun {K F H v} s ⟨e, vs, h, p⟩ f => ⟨a, vs, e, (frz_in (ps := [a]) (List.mem_singleton.mpr rfl)).trans h, Paired.mapP p fun _ _ q => i.mono (frz_le f) q⟩
theorem Lc.lendO {K : PySem.W.Frag} {B : Bs} {F H : Hp} {σ : L2.St} {k : Nat} {o : Own} {x : α} (L : Lc K B F H σ Γ) (hk : Γ[k]? = some (.own o)) (hx : Froz o x) :
    Lc K ⟨frz F H o.fp, H, fun _ => True⟩ (frz F H o.fp) H σ (Γ.set k (.val i x)) ∧ ∀ b ∈ o.fp, F b = none := by
  obtain ⟨v, ev, ok, f⟩ := slot_own L hk
  have f0 : ∀ b ∈ o.fp, F b = none := fun b hb => (f b hb).1
  refine ⟨⟨⟨Same.refl _, frz_same L.same, fun _ _ n => absurd trivial n, fun _ _ h _ => h, fun _ _ h => h⟩, by simp [L.len], fun q t hq => ?_, L.ap.put k rfl⟩, f0⟩
  rcases get_set_slot hq with ⟨e1, e2, rfl⟩ | ⟨e1, hq'⟩
  · subst e1
    rw [ev]
    exact ⟨v, rfl, hx L.same ok f0⟩
  · have old := L.ok q t hq'
    cases t with
    | no => trivial
    | val i x => obtain ⟨v, e2, r⟩ := old; exact ⟨v, e2, i.mono (frz_le f0) r⟩
    | own o2 =>
      obtain ⟨u, eu, ok2, f2⟩ := old
      exact ⟨u, eu, o2.stay (frz_le f0) (fun _ _ _ h => h) ok2, fun b hb => ⟨by rw [frz_out (fun hb2 => L.ap k q o o2 e1 hk hq' b hb2 hb)]; exact (f2 b hb).1, .inr trivial⟩⟩
theorem lend_back {F H F' H' : Hp} {ps : List Addr} (s : Same F H) (e : Ext (frz F H ps) H F' H') : Ext F H F H' := ⟨Same.refl F, s.trans e.hs, e.hh, fun _ _ h _ => h, fun _ z => z.elim⟩
theorem ev_lendO (k : Nat) {o : Own} {x : α} {y : β} [Flat β] (hx : Froz o x) (h : EV X (Γ.set k (.val i x)) e y) (hk : autoParam (Γ[k]? = some (.own o)) aRfl) : EV X Γ e y := fun B F H σ Q L q => by
  obtain ⟨L', fa⟩ := L.lendO hk hx
  exact h _ _ H σ Q L' fun v F' H' ex r => q v F H' (lend_back L.same ex) (Flat.fl r)
theorem et_lendO (k : Nat) {o : Own} {x : α} {y : Bool} (hx : Froz o x) (h : ET X (Γ.set k (.val i x)) e y) (hk : autoParam (Γ[k]? = some (.own o)) aRfl) : ET X Γ e y := fun B F H σ Q L q => by
  obtain ⟨L', fa⟩ := L.lendO hk hx
  exact h _ _ H σ Q L' fun F' H' ex => q F H' (lend_back L.same ex)
theorem en_lendO (k : Nat) {o : Own} {x : α} {ys : List β} [Flat β] (hx : Froz o x) (h : EN X (Γ.set k (.val i x)) e ys) (hk : autoParam (Γ[k]? = some (.own o)) aRfl) : EN X Γ e ys := fun B F H σ Q L q => by
  obtain ⟨L', fa⟩ := L.lendO hk hx
  exact h _ _ H σ Q L' fun a vs F' H' ex ha f2 h' pr => q a vs F H' (lend_back L.same ex) ha (L.same.free ha) h' (Paired.mapP pr fun _ _ z => Flat.fl z)
theorem en_lend (k : Nat) {ad : Addr} {xs : List α} {ys : List β} [Flat β] (h : EN X (Γ.set k (.val repList xs)) e ys) (hk : autoParam (Γ[k]? = some (.lst i ad xs)) aRfl) : EN X Γ e ys := en_lendO k frozL h hk
theorem ex_call {n : Str} {k : Nat} {ps : List Str} {S : Spec} {A : List Slot} {P : Ret → Prop} (G : Has X.prog X.w X.K X.mg X.base k n ps S) (hr : Room k X.A) (ha : EA X Γ (e :: es) A)
    (hS : ∀ P' R', (∀ r, P r → P' r) → S A P' R') (hg : autoParam (Gl X n) aRfl) (hd : autoParam ((n == ("__debug__" : Str)) = false) aDec)
    (he : autoParam (starEach (e :: es) X.env = (false, eval e X.env) :: starEach es X.env) aStar) (hpl : autoParam ((backTo pos (starEach es X.env)).any (·.1) = false) aPl) : EX X Γ (.Call (.Name n p) (e :: es) [] pos) P := fun B F H σ Q L q => by
  obtain ⟨f, fd, hm, hk, hb, G⟩ := G.ex
  refine WE.of (pe_call G hr hg hm hk hb .nil passL paW hd he hpl) (ha B F H σ _ L fun vs F1 H1 e1 r1 => ?_)
  rw [List.append_nil]
  exact ⟨F1, A, (L.step e1).same, r1.toO, r1.apart, hS _ _ fun r hr v F2 H2 e2 ok => q r v F2 H2 hr (e1.thenM e2 fun _ m => (r1.ma m).elim) (ok.imp fun b h => e1.hs.free (h.elim id fun m => (r1.ma m).elim))⟩
theorem ev_call {n : Str} {k : Nat} {ps : List Str} {S : Spec} {A : List Slot} {x : α} (G : Has X.prog X.w X.K X.mg X.base k n ps S) (hr : Room k X.A) (ha : EA X Γ (e :: es) A) (hS : ∀ P R, P (.val i x) → S A P R) (hg : autoParam (Gl X n) aRfl) (hd : autoParam ((n == ("__debug__" : Str)) = false) aDec)
    (he : autoParam (starEach (e :: es) X.env = (false, eval e X.env) :: starEach es X.env) aStar) (hpl : autoParam ((backTo pos (starEach es X.env)).any (·.1) = false) aPl) : EV X Γ (.Call (.Name n p) (e :: es) [] pos) x :=
  ev_of_ex (ex_call G hr ha (fun P' R' h => hS P' R' (h _ rfl)) hg hd he hpl)
theorem en_call {n : Str} {k : Nat} {ps : List Str} {S : Spec} {A : List Slot} {xs : List α} (G : Has X.prog X.w X.K X.mg X.base k n ps S) (hr : Room k X.A) (ha : EA X Γ (e :: es) A) (hS : ∀ P R, P (.new i xs) → S A P R) (hg : autoParam (Gl X n) aRfl) (hd : autoParam ((n == ("__debug__" : Str)) = false) aDec)
    (he : autoParam (starEach (e :: es) X.env = (false, eval e X.env) :: starEach es X.env) aStar) (hpl : autoParam ((backTo pos (starEach es X.env)).any (·.1) = false) aPl) : EN X Γ (.Call (.Name n p) (e :: es) [] pos) xs :=
  en_of_ex (ex_call G hr ha (fun P' R' h => hS P' R' (h _ rfl)) hg hd he hpl)
end
section
variable {P : Program} {w : World} {K : PySem.W.Frag} {mg : Str → Option Value} {base : Heap}
structure Df (K : PySem.W.Frag) (mg : Str → Option Value) (n : Str) (st : Stmt) (ps : List Str) : Prop where
  ex : ∃ f fd, Fun K n n st f fd ∧ Binds K fd ps [] ∧ mg n = some (.ref f)
theorem lc_start {F H : Hp} (s : Same F H) : ∀ {vs : List V} {A : List Slot} (r : VsOkO K F H vs A) (ap : Apart A) (n : Nat), Lc K ⟨F, H, MA A⟩ F H (vs.map some ++ List.replicate n none) (A ++ List.replicate n .no) := by
  intro vs A r ap n
  have key : ∀ {vs : List V} {A A0 : List Slot}, VsOkO K F H vs A → (∀ s ∈ A, s ∈ A0) → ∀ (k : Nat) t, (A ++ List.replicate n Slot.no)[k]? = some t → SlotOk K ⟨F, H, MA A0⟩ F H ((vs.map some ++ List.replicate n none)[k]?).join t := by
    intro vs A
    induction A generalizing vs with
    | nil =>
      intro A0 r _ k t h
      rw [List.nil_append, List.getElem?_replicate] at h
      split at h
      · cases h; exact trivial
      · cases h
    | cons a A ih =>
      intro A0 r hm k t h
      cases vs with
      | nil => cases a <;> exact r.elim
      | cons v vs =>
        cases a with
        | no => exact r.elim
        | own o =>
          cases k with
          | zero =>
            simp at h
            subst h
            exact ⟨v, rfl, r.1, fun b hb => ⟨r.2.1 b hb, .inr ⟨o, hm _ (List.mem_cons_self ..), hb⟩⟩⟩
          | succ k => exact ih r.2.2 (fun s hs => hm s (List.mem_cons_of_mem _ hs)) k t (by simpa using h)
        | val i x =>
          cases k with
          | zero =>
            simp at h
            subst h
            exact ⟨v, rfl, r.1⟩
          | succ k => exact ih r.2 (fun s hs => hm s (List.mem_cons_of_mem _ hs)) k t (by simpa using h)
  have inA : ∀ {k : Nat} {o : Own}, (A ++ List.replicate n Slot.no)[k]? = some (.own o) → A[k]? = some (.own o) := fun {k o} h => by
    by_cases hk : k < A.length
    · rw [List.getElem?_append_left hk] at h; exact h
    · rw [List.getElem?_append_right (by omega), List.getElem?_replicate] at h
      split at h <;> cases h
  exact ⟨⟨Same.refl _, s, fun _ _ _ h => h, fun _ _ h _ => h, fun _ _ h => h⟩, by simp [r.len], fun k t h => key r (fun _ h => h) k t h, fun x y o1 o2 hxy h1 h2 => ap x y o1 o2 hxy (inA h1) (inA h2)⟩
theorem Has.of {n : Str} {st : Stmt} {N ps : List Str} {k : Nat} {S : Spec} (D : Df K mg n st ps) (sc : FnScope N ps (defScope st)) (len : ∀ A Q R, S A Q R → A.length = ps.length)
    (body : ∀ (f : Addr) (cdv : Value) (A : Around) (outer : List Env) (s : Shared) (H : Hp) (E : XK), Room k (A.deeper (envOfC n (defScope st) s.heap.objs.size f cdv)) → ∀ Γ Q R, S Γ Q R →
      ST (cxOf (L2.CX P w) P w K mg base N n (defScope st) f cdv A outer s H E).nox (defBody st) (Γ ++ List.replicate (N.length - ps.length) .no) (fin Q)) :
    Has P w K mg base (k + 1) n ps S := by
  obtain ⟨f, fd, F, hb, hm⟩ := D.ex
  refine ⟨f, fd, hm, F.kp, hb, F.okX sc (fun vs H Q E ⟨F0, A, s, r, ap, h⟩ => ?_) (fun cdv A outer s H vs Q E hr h => ?_)⟩
  · rw [r.len]; exact len _ _ _ h
  · obtain ⟨F0, A0, sm, r, ap, h⟩ := h
    refine ⟨_, psW.nox, ?_⟩
    have hl := len _ _ _ h
    have L0 := lc_start (K := K) sm r ap (N.length - ps.length)
    have L1 : Lc K ⟨F0, H, MA A0⟩ F0 H (L2.start N vs) (A0 ++ List.replicate (N.length - ps.length) .no) := by
      unfold L2.start
      rw [show vs.length = ps.length from r.len.trans hl]
      exact L0
    refine body f cdv A outer s H E hr A0 _ _ h ⟨F0, H, MA A0⟩ F0 H _ _ L1 ⟨fun F' H' σ' Γ' _ hq L => ?_, fun r v F' H' hq ex ok => hq v F' H' ex ok, fun _ _ _ _ _ z => z.elim, fun _ _ _ _ _ z => z.elim, fun _ _ _ _ _ _ _ _ z => z.elim⟩
    exact hq .non F' H' L.ext rfl
end
end Tw
namespace Tw
open PySem PySem.Spec PyProof.Rows L2 TL
class Dat (α : Type) [i : Rep α] [DecidableEq α] where
  en : α → PyData
  ok : α → Prop
  dep : Nat
  dp : ∀ {K F v x}, i.rp K F v x → Dp K F v (en x)
  lay : ∀ {x}, ok x → (en x).canLay0 = true
  deep : ∀ x, (en x).depth ≤ dep
  eqv : ∀ x y, PyData.eqv (en x) (en y) = decide (x = y)
noncomputable instance : Dat Int := ⟨.int, fun _ => True, 0, fun {_ _ v x} h => by obtain rfl : v = .int x := h; exact .int _, fun _ => by rw [PyData.canLay0], fun _ => by simp [PyData.depth], fun x y => by simp [PyData.eqv, Bool.beq_eq_decide_eq]⟩
noncomputable instance : Dat Bool := ⟨.bool, fun _ => True, 0, fun {_ _ v x} h => by obtain rfl : v = .bl x := h; exact .bl _, fun _ => by rw [PyData.canLay0], fun _ => by simp [PyData.depth], fun x y => by simp [PyData.eqv, Bool.beq_eq_decide_eq]⟩
noncomputable def TxOk (x : Tx) : Prop := ∀ c ∈ x, c < 1114112
noncomputable instance : Dat (List Nat) := ⟨fun x => .str (sx x), TxOk, 0, fun {_ _ v x} h => by obtain rfl : v = .str (sx x) := h; exact .str _, fun {x} h => by
    rw [PyData.canLay0]
    show (sx x).cps.all (· < 0x110000) = true
    rw [Array.all_eq_true']
    intro c hc
    exact decide_eq_true (h c (by simpa [sx] using hc)), fun _ => by simp [PyData.depth], fun x y => by
    rw [PyData.eqv, Bool.beq_eq_decide_eq]
    by_cases h : x = y
    · subst h; rw [decide_eq_true rfl, decide_eq_true rfl]
    · rw [decide_eq_false h, decide_eq_false fun z => h (sx_inj z)]⟩
section
variable {α β : Type} [i : Rep α] [DecidableEq α] [d : Dat α] [j : Rep β] [DecidableEq β] [f : Dat β]
theorem dpAll {K : PySem.W.Frag} {F : Hp} : ∀ {vs : List V} {xs : List α}, Paired (fun u x => i.rp K F u x) vs xs → DpAll K F vs (xs.map d.en)
  | _, _, .nil => .nil
  | _, _, .cons r t => .cons (d.dp r) (dpAll t)
theorem layAll : ∀ {xs : List α}, (∀ x ∈ xs, d.ok x) → PyData.canLayAll0 (xs.map d.en) = true
  | [], _ => by rw [List.map_nil, PyData.canLayAll0]
  | x :: xs, h => by
    rw [List.map_cons, PyData.canLayAll0, d.lay (h x (List.mem_cons_self ..)), layAll fun y hy => h y (List.mem_cons_of_mem _ hy)]
    rfl
theorem deepAll : ∀ xs : List α, PyData.depthAll (xs.map d.en) ≤ d.dep
  | [] => by rw [List.map_nil, PyData.depthAll]; exact Nat.zero_le _
  | x :: xs => by rw [List.map_cons, PyData.depthAll]; exact Nat.max_le.mpr ⟨d.deep x, deepAll xs⟩
theorem eqvAll : ∀ xs ys : List α, PyData.eqvAll (xs.map d.en) (ys.map d.en) = decide (xs = ys)
  | [], [] => by rw [List.map_nil, PyData.eqvAll]; rfl
  | x :: xs, [] => by rw [List.map_cons, List.map_nil, PyData.eqvAll]; rfl
  | [], y :: ys => by rw [List.map_cons, List.map_nil, PyData.eqvAll]; rfl
  | x :: xs, y :: ys => by
    rw [List.map_cons, List.map_cons, PyData.eqvAll, d.eqv, eqvAll xs ys, ← Bool.decide_and]
    exact decide_eq_decide.mpr (by simp)
noncomputable instance : Dat (List α) := ⟨fun xs => .list (xs.map d.en), fun xs => ∀ x ∈ xs, d.ok x, d.dep + 1, fun {K F v xs} ⟨a, vs, e, h, pr⟩ => by subst e; exact .lst (.inl (.inl h)) (dpAll pr), fun h => by rw [PyData.canLay0]; exact layAll h,
  fun xs => by rw [PyData.depth]; exact Nat.succ_le_succ (deepAll xs), fun xs ys => by rw [PyData.eqv]; exact eqvAll xs ys⟩
noncomputable instance : DecidableEq (Tup α) := fun x y => decidable_of_iff (x.l = y.l) (by cases x; cases y; simp)
noncomputable instance : Dat (Tup α) := ⟨fun xs => .tuple (xs.l.map d.en), fun xs => ∀ x ∈ xs.l, d.ok x, d.dep + 1, fun {K F v xs} ⟨a, vs, e, h, pr⟩ => by subst e; exact .tup (.inl (.inl h)) (dpAll pr), fun h => by rw [PyData.canLay0]; exact layAll h,
  fun xs => by rw [PyData.depth]; exact Nat.succ_le_succ (deepAll xs.l), fun xs ys => by
    rw [PyData.eqv, eqvAll]
    exact decide_eq_decide.mpr (by cases xs; cases ys; simp)⟩
noncomputable instance : Dat (α × β) := ⟨fun x => .tuple [d.en x.1, f.en x.2], fun x => d.ok x.1 ∧ f.ok x.2, max d.dep f.dep + 1, fun {K F v x} ⟨a, u, w, e, h, r1, r2⟩ => by subst e; exact .tup (.inl (.inl h)) (.cons (d.dp r1) (.cons (f.dp r2) .nil)),
  fun {x} h => by rw [PyData.canLay0, PyData.canLayAll0, PyData.canLayAll0, PyData.canLayAll0, d.lay h.1, f.lay h.2]; rfl,
  fun x => by
    rw [PyData.depth, PyData.depthAll, PyData.depthAll, PyData.depthAll]
    have h1 := d.deep x.1
    have h2 := f.deep x.2
    omega, fun x y => by
    rw [PyData.eqv, PyData.eqvAll, PyData.eqvAll, PyData.eqvAll, d.eqv, f.eqv, Bool.and_true, ← Bool.decide_and]
    exact decide_eq_decide.mpr (by cases x; cases y; simp)⟩
theorem shp {x : α} (h : d.ok x) (h2 : d.dep ≤ 64) : SeqAt.shaped (d.en x) = true := by
  unfold SeqAt.shaped
  rw [d.lay h, decide_eq_true (Nat.le_trans (d.deep x) h2)]
  rfl
end
section
variable {α : Type} [i : Rep α] [DecidableEq α] [d : Dat α] {X : Cx}
theorem dp_mono {K : PySem.W.Frag} {F H : Hp} {v : V} {x : α} (s : Same F H) (r : i.rp K F v x) : Dp K H v (d.en x) := d.dp (i.mono s r)
theorem o_eqD {x y : α} {k : Nat} (hr : Room k X.A) (hx : d.ok x) (hy : d.ok y) (h2 : autoParam (d.dep ≤ 64) aDec) : OB X (compareOp .Eq) x y (decide (x = y)) := ob_flat (op_eqD hr.units) fun F H v u Q s r1 r2 q =>
  ⟨d.en x, d.en y, dp_mono s r1, dp_mono s r2, shp hx h2, shp hy h2, q _ (by rw [d.eqv]; rfl)⟩
end
class Ty (α : Type) [i : Rep α] where
  ty : String
  is : ∀ {K F H v} {x : α}, Same F H → i.rp K F v x → TyX K H v (.type ty)
noncomputable instance : Ty Int := ⟨"int", fun {_ _ _ v x} _ h => by obtain rfl : v = .int x := h; exact .base (.int _)⟩
noncomputable instance : Ty Bool := ⟨"bool", fun {_ _ _ v x} _ h => by obtain rfl : v = .bl x := h; exact .base (.bl _)⟩
noncomputable instance : Ty (List Nat) := ⟨"str", fun {_ _ _ v x} _ h => by obtain rfl : v = .str (sx x) := h; exact .base (.str _)⟩
noncomputable instance {α : Type} [i : Rep α] : Ty (List α) := ⟨"list", fun {_ _ _ v x} s h => by obtain ⟨a, vs, rfl, h, _⟩ := h; exact .base (.lst (s _ _ h))⟩
noncomputable instance {α : Type} [i : Rep α] : Ty (Tup α) := ⟨"tuple", fun {_ _ _ v x} s h => by obtain ⟨a, vs, rfl, h, _⟩ := h; exact .base (.tup (s _ _ h))⟩
noncomputable instance {α β : Type} [i : Rep α] [j : Rep β] : Ty (α × β) := ⟨"tuple", fun {_ _ _ v x} s h => by obtain ⟨a, u, w, rfl, h, _⟩ := h; exact .base (.tup (s _ _ h))⟩
section
variable {X : Cx} {Γ : List Slot} {α β γ : Type} {i : Rep α} {j : Rep β} {l : Rep γ} {pos p p2 : Pos} {e a b c elt tg it : Expr} {es : List Expr} {E : SE} {rest body : List Stmt}
theorem ev_isi {α : Type} [i : Rep α] [t : Ty α] {x : α} (T : String) (k : Bool) (hm : X.mg "isinstance" = none) (hmT : X.mg (Str.ofString T) = none) (h : EV X Γ e x) (hvT : bootBuiltins (Str.ofString T) = some (.type T) := by decide +kernel) (hk : kitB t.ty T = some k := by decide +kernel) (hg : autoParam (Gl X "isinstance") aRfl) (hgT : autoParam (Gl X (Str.ofString T)) aRfl)
    (hnT : autoParam (Str.ofString T ≠ "__name__") aDec) (hdT : autoParam ((Str.ofString T == ("__debug__" : Str)) = false) aDec)
    (hs : autoParam (starEach [e, .Name (Str.ofString T) p2] X.env = (false, eval e X.env) :: starEach [.Name (Str.ofString T) p2] X.env) aStar) (hs2 : autoParam (starEach [.Name (Str.ofString T) p2] X.env = (false, eval (.Name (Str.ofString T) p2) X.env) :: starEach [] X.env) aStar) (hpl : autoParam ((backTo pos (starEach [.Name (Str.ofString T) p2] X.env)).any (·.1) = false) aPl) :
    EV X Γ (.Call (.Name "isinstance" p) [e, .Name (Str.ofString T) p2] [] pos) k := fun B F H σ Q L q =>
  WE.of (pe_callB call_isi hg hm (by decide +kernel) (pa_cons peW (pa_cons (pe_bltn (v := .ty T) hgT hmT hvT rfl hnT hdT) pa_nil hs2) hs) (by decide) (by decide) hs hpl) (h B F H σ _ L fun v F1 H1 e1 r1 =>
    ⟨v, .ty T, .type t.ty, .type T, k, rfl, .ty T, t.is (L.step e1).same r1, kit_ty hk, q _ F1 H1 e1 rfl⟩)
noncomputable def Le (Γ Γ' : List Slot) : Prop := Γ.length = Γ'.length ∧ ∀ (k : Nat) s, Γ'[k]? = some s → s = .no ∨ Γ[k]? = some s
theorem Le.refl : Le Γ Γ := ⟨rfl, fun _ _ h => .inr h⟩
theorem le_nil : Le [] [] := ⟨rfl, fun _ _ h => .inr h⟩
theorem le_cons {s : Slot} {Γ Γ' : List Slot} (h : Le Γ Γ') : Le (s :: Γ) (s :: Γ') := ⟨by simp [h.1], fun k t e => by
  cases k with
  | zero => exact .inr e
  | succ k => exact h.2 k t (by simpa using e)⟩
theorem le_no {s : Slot} {Γ Γ' : List Slot} (h : Le Γ Γ') : Le (s :: Γ) (.no :: Γ') := ⟨by simp [h.1], fun k t e => by
  cases k with
  | zero => simp at e; exact .inl e.symm
  | succ k => exact h.2 k t (by simpa using e)⟩
theorem Le.trans {Γ Γ' Γ'' : List Slot} (h : Le Γ Γ') (h2 : Le Γ' Γ'') : Le Γ Γ'' := ⟨h.1.trans h2.1, fun k s e => by
  rcases h2.2 k s e with z | z
  · exact .inl z
  · exact h.2 k s z⟩
theorem Lc.le {K : PySem.W.Frag} {B : Bs} {F H : Hp} {σ : L2.St} {Γ Γ' : List Slot} (L : Lc K B F H σ Γ) (h : Le Γ Γ') : Lc K B F H σ Γ' :=
  ⟨L.ext, L.len.trans h.1, fun k s e => by
    rcases h.2 k s e with rfl | e
    · trivial
    · exact L.ok k s e, fun x y o1 o2 hxy h1 h2 => by
    rcases h.2 x _ h1 with z | h1
    · cases z
    rcases h.2 y _ h2 with z | h2
    · cases z
    exact L.ap x y o1 o2 hxy h1 h2⟩
theorem st_le {sts : List Stmt} {Γ Γ' : List Slot} (h : Le Γ Γ') (hs : ST X sts Γ' E) : ST X sts Γ E := fun B F H σ D L ed => hs B F H σ D (L.le h) ed
end
noncomputable def lawS : Spec := fun A P _ => ∃ s : Scr, A = [vl s] ∧ s.l.length ≤ 63 ∧ P (rv true)
theorem hCX0 (P : Program) (w : World) (H : Hp) (s : Shared) (e : Value) (s' : Shared) : L2.CX P w [] H s (fun _ _ _ => False) e s' → False := fun ⟨_, _, _, _, _, _, _, _, _, _, _, _, z⟩ => z
theorem law_sp (K : PySem.W.Frag) (H : Hp) (a : Addr) (ns : List Int) (hl : ns.length ≤ 63) (hS : SqL K H a (ns.map V.int)) : spOf K lawS [.ref a] H (fun v _ => v = .bl true) fun _ _ _ => False := by
  refine ⟨H, [vl (Scr.mk ns)], Same.refl H, ⟨⟨a, rfl, hS⟩, trivial⟩, fun i j o1 o2 _ h1 _ => ?_, ⟨ns⟩, rfl, hl, fun v F' H' _ ok => ok⟩
  have := List.mem_of_getElem? h1
  rw [List.mem_singleton] at this
  cases this
section
variable {P : Program} {w : World} {K : PySem.W.Frag} {mg : Str → Option Value} {base : Heap}
noncomputable def BodyOk (P : Program) (w : World) (K : PySem.W.Frag) (mg : Str → Option Value) (base : Heap) (k : Nat) (n : Str) (st : Stmt) (N ps : List Str) (S : Spec) : Prop :=
  ∀ (f : Addr) (cdv : Value) (A : Around) (outer : List Env) (s : Shared) (H : Hp) (E : XK), Room k (A.deeper (envOfC n (defScope st) s.heap.objs.size f cdv)) → ∀ Γ Q R, S Γ Q R →
      ST (cxOf (L2.CX P w) P w K mg base N n (defScope st) f cdv A outer s H E).nox (defBody st) (Γ ++ List.replicate (N.length - ps.length) .no) (fin Q)
theorem law_fn {f : Addr} {fd : FuncData} {st : Stmt} {N : List Str} {x : Str} {k : Nat} (F : Fun K "law" "law" st f fd) (sc : FnScope N [x] (defScope st)) (body : BodyOk P w K mg base k "law" st N [x] lawS) :
    FnOk P w K mg base (L2.CX P w) (k + 1) f fd [x] (spOf K lawS) := by
  refine F.okX sc (fun vs H Q E ⟨F0, A, s, r, ap, h⟩ => ?_) (fun cdv A outer s H vs Q E hr h => ?_)
  · obtain ⟨s, rfl, _⟩ := h
    rw [r.len]; rfl
  · obtain ⟨F0, A0, sm, r, ap, h⟩ := h
    refine ⟨_, psW.nox, ?_⟩
    have hl : A0.length = 1 := by obtain ⟨s, rfl, _⟩ := h; rfl
    have L0 := lc_start (K := K) sm r ap (N.length - 1)
    have L1 : Lc K ⟨F0, H, MA A0⟩ F0 H (L2.start N vs) (A0 ++ List.replicate (N.length - 1) .no) := by
      unfold L2.start
      rw [show vs.length = 1 from r.len.trans hl]
      exact L0
    refine body f cdv A outer s H E hr A0 _ _ h ⟨F0, H, MA A0⟩ F0 H _ _ L1 ⟨fun F' H' σ' Γ' _ hq L => ?_, fun r v F' H' hq ex ok => hq v F' H' ex ok, fun _ _ _ _ _ z => z.elim, fun _ _ _ _ _ z => z.elim, fun _ _ _ _ _ _ _ _ z => z.elim⟩
    exact hq .non F' H' L.ext rfl
end
theorem ev_gintE {X : Cx} {Γ : List Slot} {pos : Pos} {n : Str} {z : Int} (hm : ∃ t, X.mg n = some (.int z t)) (hg : autoParam (Gl X n) aRfl) (hd : autoParam ((n == ("__debug__" : Str)) = false) aDec) : EV X Γ (.Name n pos) z := by
  obtain ⟨t, hm⟩ := hm
  exact ev_gint hm hg hd
theorem ev_gstrE {X : Cx} {Γ : List Slot} {pos : Pos} {n : Str} {s : String} (hm : ∃ t, X.mg n = some (.str (Str.ofString s) t)) (hg : autoParam (Gl X n) aRfl) (hd : autoParam ((n == ("__debug__" : Str)) = false) aDec) : EV X Γ (.Name n pos) (tx s) := by
  obtain ⟨t, hm⟩ := hm
  exact ev_gstr s hm hg hd
theorem pgn {X : Cx} (k : Nat) {n : Str} {pos : Pos} (hN : X.N.Nodup) (hi : autoParam (X.N[k]? = some n) aRfl) (hx : autoParam (L2.Loc X.env.scope n) aLoc)
    (hf : autoParam (X.fn n = true ∨ X.env.scope.names.lookup n = some .local) Tw.aFn) : PG X (.Name n pos) (gName k) := pg_name hN hi hx hf
theorem Le.set {Γ Γ' : List Slot} (h : Le Γ Γ') (k : Nat) (s : Slot) : Le (Γ.set k s) (Γ'.set k s) := ⟨by simp [h.1], fun q t e => by
  rcases get_set_slot e with ⟨e1, e2, rfl⟩ | ⟨e1, e⟩
  · refine .inr ?_
    subst e1
    rw [List.getElem?_set_self (by rw [h.1]; exact e2)]
  · rcases h.2 q t e with z | z
    · exact .inl z
    · exact .inr (by rw [List.getElem?_set_ne e1]; exact z)⟩
theorem en_nil {X : Cx} {Γ : List Slot} {pos : Pos} (α : Type) [i : Rep α] : EN X Γ (.List [] pos) ([] : List α) := en_lst es_nil
theorem rng_get0 {n k : Nat} {x : Int} (h : (rng 0 n)[k]? = some x) : k < n ∧ x = (k : Int) := by
  obtain ⟨h1, h2⟩ := rng_get h
  exact ⟨h1, by rw [h2]; omega⟩
theorem joinOnes {A : Type} (xs : List A) (f : A → Nat) : joinL [] (xs.map fun x => ([f x] : Tx)) = xs.map f := by
  rw [show (fun x => ([f x] : Tx)) = (fun c => ([c] : Tx)) ∘ f from rfl, ← List.map_map, joinL_one]
theorem take_snoc {A : Type} {xs : List A} {k : Nat} {x : A} (h : xs[k]? = some x) : xs.take (k + 1) = xs.take k ++ [x] := by rw [List.take_add_one, h]; rfl
theorem lt_line {n : Nat} (h : n ≤ 1000) : n < sizeLine := Nat.lt_of_le_of_lt h (by decide)
theorem sum_ones {A : Type} (xs : List A) (f : A → Nat) : ((xs.map fun x => ([f x] : Tx)).map (·.length)).sum = xs.length := by
  rw [List.map_map, show (List.length ∘ fun x => ([f x] : Tx)) = fun _ => 1 from rfl, List.map_const', List.sum_replicate_nat]; omega
end Tw
namespace Tw
open PySem PySem.Spec PyProof.Rows L2 TL
section
variable {X : Cx} {Γ : List Slot} {α β γ δ : Type} {i : Rep α} {j : Rep β} {l : Rep γ} {m : Rep δ} {pos p p2 : Pos} {e a b c d elt tg it : Expr} {es : List Expr} {E : SE} {rest body : List Stmt}
theorem ev_all {bs : List Bool} (hm : X.mg "all" = none) (h : EV X Γ e bs) (hc : autoParam (X.calm = true) aRfl) (hg : autoParam (Gl X "all") aRfl) (hs : autoParam (starEach [e] X.env = (false, eval e X.env) :: starEach [] X.env) aStar) (hpl : autoParam ((backTo pos (starEach [] X.env)).any (·.1) = false) aPl) :
    EV X Γ (.Call (.Name "all" p) [e] [] pos) (bs.all id) :=
  ev_callB1 (cr_all hc) hm (by decide +kernel) h (fun F H v Q s r q => by
    obtain ⟨ad, vs, rfl, ha, pr⟩ := r
    exact ⟨ad, bs, rfl, by rw [← Rps.bls pr]; exact sq_of s ha, q _ F H (Ext.refl s) rfl⟩) hg (by decide) (by decide) hs hpl
theorem st_unpack4 (k1 k2 k3 k4 : Nat) {n1 n2 n3 n4 : Str} {x1 x2 x3 x4 : α} {q1 q2 q3 q4 tp : Pos} {kk} (he : EV X Γ e (Tup.mk [x1, x2, x3, x4])) (hr : ST X rest ((((Γ.set k1 (.val i x1)).set k2 (.val i x2)).set k3 (.val i x3)).set k4 (.val i x4)) E)
    (hg : PG X (.Tuple [.Name n1 q1, .Name n2 q2, .Name n3 q3, .Name n4 q4] kk tp) (gTup X.K 4 (gCons (gName k1) (gCons (gName k2) (gCons (gName k3) (gCons (gName k4) gNil))))))
    (hs : autoParam (swapsWithSole [.Tuple [.Name n1 q1, .Name n2 q2, .Name n3 q3, .Name n4 q4] kk tp] e pos.line X.env = pure false) aRfl) (hw : autoParam (swappedStores [.Tuple [.Name n1 q1, .Name n2 q2, .Name n3 q3, .Name n4 q4] kk tp] e X.env = pure none) aRfl)
    (h1 : autoParam ((assignEach [.Tuple [.Name n1 q1, .Name n2 q2, .Name n3 q3, .Name n4 q4] kk tp] X.env).map (·.2) = [assign (.Tuple [.Name n1 q1, .Name n2 q2, .Name n3 q3, .Name n4 q4] kk tp) X.env]) aRfl) :
    ST X (.Assign [.Tuple [.Name n1 q1, .Name n2 q2, .Name n3 q3, .Name n4 q4] kk tp] e pos :: rest) Γ E := fun B F H σ D L ed =>
  WP.cons (ps_asg peW hg hs hw h1) (he B F H σ _ L fun v F1 H1 e1 r1 => by
    obtain ⟨ad, vs, rfl, ha, pr⟩ := r1
    have L1 := L.step e1
    match vs, pr with
    | [v1, v2, v3, v4], .cons p1 (.cons p2 (.cons p3 (.cons p4 .nil))) =>
      exact ⟨ad, _, rfl, st_of L1.same ha, rfl, v1, _, rfl, v2, _, rfl, v3, _, rfl, v4, _, rfl, rfl, hr B F1 H1 _ D ((((L1.putV k1 p1).putV k2 p2).putV k3 p3).putV k4 p4) (ed.weak e1.ff)⟩)
theorem pg4 (k1 k2 k3 k4 : Nat) {n1 n2 n3 n4 : Str} {q1 q2 q3 q4 tp : Pos} {kk} (hN : X.N.Nodup) (hc : autoParam (X.calm = true) aRfl) (h1 : PG X (.Name n1 q1) (gName k1)) (h2 : PG X (.Name n2 q2) (gName k2)) (h3 : PG X (.Name n3 q3) (gName k3)) (h4 : PG X (.Name n4 q4) (gName k4))
    (a1 : autoParam ((assignEach [.Name n1 q1, .Name n2 q2, .Name n3 q3, .Name n4 q4] X.env).map (·.2) = assign (.Name n1 q1) X.env :: (assignEach [.Name n2 q2, .Name n3 q3, .Name n4 q4] X.env).map (·.2)) aRfl)
    (a2 : autoParam ((assignEach [.Name n2 q2, .Name n3 q3, .Name n4 q4] X.env).map (·.2) = assign (.Name n2 q2) X.env :: (assignEach [.Name n3 q3, .Name n4 q4] X.env).map (·.2)) aRfl)
    (a3 : autoParam ((assignEach [.Name n3 q3, .Name n4 q4] X.env).map (·.2) = assign (.Name n3 q3) X.env :: (assignEach [.Name n4 q4] X.env).map (·.2)) aRfl)
    (a4 : autoParam ((assignEach [.Name n4 q4] X.env).map (·.2) = assign (.Name n4 q4) X.env :: (assignEach [] X.env).map (·.2)) aRfl)
    (hn : autoParam ((assignEach [.Name n1 q1, .Name n2 q2, .Name n3 q3, .Name n4 q4] X.env).length = 4) aRfl) (hst : autoParam ((assignEach [.Name n1 q1, .Name n2 q2, .Name n3 q3, .Name n4 q4] X.env).findIdx? (·.1) = none) aRfl) :
    PG X (.Tuple [.Name n1 q1, .Name n2 q2, .Name n3 q3, .Name n4 q4] kk tp) (gTup X.K 4 (gCons (gName k1) (gCons (gName k2) (gCons (gName k3) (gCons (gName k4) gNil))))) :=
  pg_tup hc (pgs_cons h1 (pgs_cons h2 (pgs_cons h3 (pgs_cons h4 pgs_nil a4) a3) a2) a1) hn hst
theorem pg2 (k1 k2 : Nat) {n1 n2 : Str} {q1 q2 tp : Pos} {kk} (h1 : PG X (.Name n1 q1) (gName k1)) (h2 : PG X (.Name n2 q2) (gName k2)) (hc : autoParam (X.calm = true) aRfl)
    (a3 : autoParam ((assignEach [.Name n1 q1, .Name n2 q2] X.env).map (·.2) = assign (.Name n1 q1) X.env :: (assignEach [.Name n2 q2] X.env).map (·.2)) aRfl)
    (a4 : autoParam ((assignEach [.Name n2 q2] X.env).map (·.2) = assign (.Name n2 q2) X.env :: (assignEach [] X.env).map (·.2)) aRfl)
    (hn : autoParam ((assignEach [.Name n1 q1, .Name n2 q2] X.env).length = 2) aRfl) (hst : autoParam ((assignEach [.Name n1 q1, .Name n2 q2] X.env).findIdx? (·.1) = none) aRfl) :
    PG X (.Tuple [.Name n1 q1, .Name n2 q2] kk tp) (gTup X.K 2 (gCons (gName k1) (gCons (gName k2) gNil))) := pg_tup hc (pgs_cons h1 (pgs_cons h2 pgs_nil a4) a3) hn hst
structure Thing where
  u : Unit
noncomputable instance repThing : Rep Thing := ⟨fun _ _ _ _ => True, fun _ h => h⟩
end
end Tw
namespace Tw
open PySem PySem.Spec PyProof.Rows L2 TL
structure XCls (K : PySem.W.Frag) (n : Str) (C : Addr) : Prop where
  ns : PySem.W.nsIn K mainGlobals n = some (some (.ref C))
  kp : PySem.W.keepIn K (.ref C) = true
  ty : PySem.W.typeIn K (.ref C) = some (.type "type")
  is : ExcC K C
noncomputable def XC (K : PySem.W.Frag) (mg : Str → Option Value) (n : Str) : Prop := ∃ C, XCls K n C ∧ mg n = some (.ref C)
noncomputable def XPlain (K : PySem.W.Frag) (n : Str) : Prop := ∀ C, PySem.W.nsIn K mainGlobals n = some (some (.ref C)) → PySem.W.excIn K C [.type "ValueError", .type "Exception", .type "BaseException", .type "object"] "ValueError.__new__" = true
noncomputable def XSub (K : PySem.W.Frag) (n m : Str) (b : Bool) : Prop := ∀ C D, PySem.W.nsIn K mainGlobals n = some (some (.ref C)) → PySem.W.nsIn K mainGlobals m = some (some (.ref D)) → PySem.W.exmOne K (.ref C) (.ref D) = some b ∧ PySem.W.kitOne K (.ref C) (.ref D) = some b
noncomputable def XSubT (K : PySem.W.Frag) (n : Str) (T : String) (b : Bool) : Prop := ∀ C, PySem.W.nsIn K mainGlobals n = some (some (.ref C)) → PySem.W.kitOne K (.ref C) (.type T) = some b
noncomputable def XNone (K : PySem.W.Frag) (t : String) (m : Str) : Prop := ∀ D, PySem.W.nsIn K mainGlobals m = some (some (.ref D)) → PySem.W.kitOne K (.type t) (.ref D) = some false
theorem ns_one {K : PySem.W.Frag} {n : Str} {C D : Addr} (h1 : PySem.W.nsIn K mainGlobals n = some (some (.ref C))) (h2 : PySem.W.nsIn K mainGlobals n = some (some (.ref D))) : D = C := by
  rw [h1] at h2
  cases h2
  rfl
theorem kitOf {K : PySem.W.Frag} {t : Value} {D : Addr} {b : Bool} (ht : PySem.W.typeIn K (.ref D) = some (.type "type")) (hd : PySem.W.hasDictIn K D = true) (h : PySem.W.subIn K t (.ref D) = some b) (hb : t = .ref D → b = true) : PySem.W.kitOne K t (.ref D) = some b := by
  unfold PySem.W.kitOne
  split
  · rename_i e
    rw [hb (beq_iff_eq.mp e)]
  · obtain ⟨cd, hc, _⟩ := PySem.W.any_some hd
    show (if ((PySem.W.clsIn K D).isSome && PySem.W.typeIn K (.ref D) == some (.type "type")) = true then PySem.W.subIn K t (.ref D) else none) = some b
    rw [if_pos (by rw [hc, ht]; rfl)]
    exact h
theorem XPlain.mk {K : PySem.W.Frag} {n : Str} {C : Addr} (a : PySem.W.nsIn K mainGlobals n = some (some (.ref C))) (h : PySem.W.excIn K C [.type "ValueError", .type "Exception", .type "BaseException", .type "object"] "ValueError.__new__" = true) : XPlain K n := fun D e => ns_one a e ▸ h
theorem XSub.mk {K : PySem.W.Frag} {n m : Str} {b : Bool} {C D : Addr} (a1 : PySem.W.nsIn K mainGlobals n = some (some (.ref C))) (a2 : PySem.W.nsIn K mainGlobals m = some (some (.ref D))) (ht : PySem.W.typeIn K (.ref D) = some (.type "type")) (hs : PySem.W.subIn K (.ref D) (.type "BaseException") = some true) (hd : PySem.W.hasDictIn K D = true)
    (h : PySem.W.subIn K (.ref C) (.ref D) = some b) (hb : C = D → b = true) : XSub K n m b := fun C' D' e1 e2 => by
  obtain rfl := ns_one a1 e1
  obtain rfl := ns_one a2 e2
  exact ⟨PySem.W.exm_ref hs hd ht h, kitOf ht hd h fun e => hb (Value.ref.inj e)⟩
theorem XSubT.mk {K : PySem.W.Frag} {n : Str} {T : String} {b : Bool} {C : Addr} (hm : PySem.W.kitMeta T = true) (a : PySem.W.nsIn K mainGlobals n = some (some (.ref C))) (h : PySem.W.subIn K (.ref C) (.type T) = some b) : XSubT K n T b := fun D e => by
  obtain rfl := ns_one a e
  show (if PySem.W.kitMeta T = true then PySem.W.subIn K (.ref D) (.type T) else none) = some b
  rw [if_pos hm]
  exact h
theorem XNone.mk {K : PySem.W.Frag} {t : String} {m : Str} {D : Addr} (a : PySem.W.nsIn K mainGlobals m = some (some (.ref D))) (ht : PySem.W.typeIn K (.ref D) = some (.type "type")) (hd : PySem.W.hasDictIn K D = true) (h : PySem.W.subIn K (.type t) (.ref D) = some false) : XNone K t m := fun D' e => by
  obtain rfl := ns_one a e
  exact kitOf ht hd h fun z => nomatch z
noncomputable def ErrO (cls : Value) (d : Option Addr) (a : Addr) : HO := .ext fun h => ∃ (oe : Obj) (vs : Array Value), h.get? a = some oe ∧ Zc cls d oe ∧ oe.data = .fields vs
theorem errO_ok {P : Program} {w : World} {H : Hp} {h : Heap} {a : Addr} {cls : Value} {d : Option Addr} {oe : Obj} {vs : Array Value} (e : h.get? a = some oe) (z : Zc cls d oe) (hd : oe.data = .fields vs) : ObjOk P w H h a (ErrO cls d a) :=
  ⟨⟨oe, vs, e, z, hd⟩, ⟨oe, e⟩, fun _ _ ⟨o, v, q, r⟩ k => ⟨o, v, k o q, r⟩⟩
structure Err where
  cls : Str
structure ErrW (α : Type) where
  cls : Str
  fld : Str
  why : α
noncomputable def ErrAt (K : PySem.W.Frag) (F : Hp) (v : V) (n : Str) (d : Option Addr) : Prop := ∃ a C, v = .ref a ∧ F a = some (ErrO (.ref C) d a) ∧ PySem.W.nsIn K mainGlobals n = some (some (.ref C))
noncomputable instance repErr : Rep Err := ⟨fun K F v x => ErrAt K F v x.cls none, fun s ⟨a, C, e, h, n⟩ => ⟨a, C, e, s _ _ h, n⟩⟩
noncomputable instance repErrW {α : Type} [i : Rep α] : Rep (ErrW α) := ⟨fun K F v x => ∃ dx w, ErrAt K F v x.cls (some dx) ∧ F dx = some (.xd [(x.fld, w)]) ∧ i.rp K F w x.why,
  fun s ⟨dx, w, ⟨a, C, e, h, n⟩, h2, r⟩ => ⟨dx, w, ⟨a, C, e, s _ _ h, n⟩, s _ _ h2, i.mono s r⟩⟩
noncomputable def Exn.slot (x : Exn) : Slot := match x.why with
  | .no => .val repErr ⟨x.cls⟩
  | .val i y => .val (@repErrW _ i) ⟨x.cls, x.fld, y⟩
  | .own _ => .no
class IsErr (α : Type) [i : Rep α] where
  cls : α → Str
  at_ : ∀ {K F v x}, i.rp K F v x → ∃ d, ErrAt K F v (cls x) d ∧ ∀ dx, d = some dx → ∃ fs, F dx = some (.xd fs)
noncomputable instance : IsErr Err := ⟨fun x => x.cls, fun h => ⟨none, h, fun _ z => nomatch z⟩⟩
noncomputable instance {α : Type} [i : Rep α] : IsErr (ErrW α) := ⟨fun x => x.cls, fun ⟨dx, w, h, h2, _⟩ => ⟨some dx, h, fun d e => by cases e; exact ⟨_, h2⟩⟩⟩
section
open PySem.W
variable {prog : Program} {w : World} {A : Around} {E : Value → Shared → Prop} {s : Shared} {K : Frag} {x D : Addr} {ox : Obj} {od : Option Obj}
theorem findObj_dataD {C : Addr} {name : Str} {a g : Value} (hc : (clsIn K C).isSome = true) (ha : findIn K (.ref C) name = some (some a)) (hg : specialIn K a "__get__" = some (some g)) (ht : takesIn K a = some true) : findObj K C od name = some (.bind g a) := by
  obtain ⟨cd, hc⟩ := Option.isSome_iff_exists.mp hc
  unfold findObj
  rw [hc, Option.bind_some, ha, Option.bind_some]
  simp [hg, ht]
theorem kin_classD {Q : Option Value → Shared → Prop} (T : L2.ExcC K D) (X : K.In s.heap) (I : InstAt s.heap x ox D od) (h : Q (some (.ref D)) { s with toks := s.toks + 1 }) : wpAny (model prog w) A (getAttr? (.ref x) "__class__") Q E s := by
  have hf : findObj K D od "__class__" = some (.bind (.builtin "getset_descriptor.__get__") (.builtin "object.__class__")) := findObj_dataD (by obtain ⟨cd, hc, _⟩ := any_some T.hd; rw [hc]; rfl) T.ha T.hn T.ht
  obtain ⟨hp, g, d, t, os⟩ := s
  have L0 := I.type (M := model prog w)
  have L1 := looks_findIn (M := model prog w) X T.hg
  have L2 := looks_findIn (M := model prog w) X T.hk
  have L3 := looks_find (M := model prog w) X I hf
  have sub : Looks (model prog w) hp (isInstance (.ref x) (.type "BaseException")) true := L0.andThen (looks_subIn X T.hs)
  have hx0 : (false && onTheHeap (Value.builtin "BaseException.__getattribute__")) = false := rfl
  have hx2 : (Value.builtin "BaseException.__getattribute__" == Value.builtin "object.__getattribute__") = false := by decide +kernel
  have hx1 : (onTheHeap (Value.ref D) && Value.builtin "BaseException.__getattribute__" == Value.builtin "object.__getattribute__") = false := by rw [hx2]; rfl
  unfold getAttr? getAttrBy? getAttrBy
  refine wpAny_bind (wpAny_mkText (wpAny_bind (wpAny_attempt (wpAny_holding (wpAny_bind (L0.at (wpAny_bind (L1.at ?_))))))))
  show wpAny _ _ (if (onTheHeap (Value.ref D) && Value.builtin "BaseException.__getattribute__" == Value.builtin "object.__getattribute__") = true then _ else _) _ _ _
  rw [hx1, if_neg Bool.false_ne_true]
  unfold getAttrByItsOwn hookBefore
  refine wpAny_bind ?_
  rw [if_pos (show onTheHeap (Value.ref D) = true from rfl)]
  refine L2.at ?_
  refine wpAny_bind (wpAny_attempt (wpAny_holding ?_))
  unfold callGetattribute
  rw [hx0, if_neg Bool.false_ne_true]
  unfold boundAndCalled
  rw [PySem.F.excAttr_ValueError.ga.bind (.ref x)]
  refine wpAny_bind (wpAny_pure ?_)
  show wpAny _ _ (call (.builtin "BaseException.__getattribute__") [.ref x, .str "__class__" t]) _ _ _
  refine wpAny_call (codeAny_call_builtin PySem.F.excAttr_ValueError.ga.plain PySem.F.entry_bexc_ga ?_)
  refine @check_slot (model prog w) _ _ ⟨hp, g, d, t + 1, os⟩ "BaseException.__getattribute__" "BaseException" "__getattribute__" (.ref x) [.str "__class__" t] [] _ (by decide +kernel) (by decide +kernel) sub (PySem.F.args_bexc_ga (.ref x) (.str "__class__" t)) ?_
  unfold Builtin.«object.__getattribute__»
  refine wpAny_bind (wpAny_of_eq (a := ((Value.ref x : Value), [Value.str "__class__" t])) (by first | rfl | (simp only [slotArgs]; rfl)) ?_)
  refine wpAny_bind (wpAny_pure (wpAny_bind (L0.at (wpAny_bind (L3.at ?_)))))
  show wpAny _ _ (holding [Value.builtin "object.__class__"] (call (.builtin "getset_descriptor.__get__") [.builtin "object.__class__", .ref x, .ref D]) >>= ret) _ _ _
  refine wpAny_bind (wpAny_holding (wpAny_call (class_get (s := ⟨hp, g, d, t + 1, os⟩) (ox := ox) (od := od) X I T.hm ?_)))
  refine wpAny_pure ?_
  show wpAny _ _ (handedOut (.ref D)) _ _ _
  rw [handedOut_of (v := .ref D) rfl]
  first
    | exact wpAny_pure (wpAny_pure h)
    | exact wpAny_pure h
    | exact wpAny_pure (wpAny_bind (wpAny_pure (wpAny_pure h)))
theorem kitx_err (T : L2.ExcC K D) : KitX K (.ref x) (.ref D) (fun h => ∃ ox od, InstAt h x ox D od) where
  ty := fun _ _ _ ⟨_, _, I⟩ => I.type
  it := fun _ _ X _ => by
    obtain ⟨cdD, hcD, _⟩ := any_some T.hd
    unfold clsIn at hcD
    split at hcD
    · rename_i c' d' cd' sl' ho
      intro A' Q' E' s' k q
      unfold isType loadHead
      exact wpAny_bind (wpAny_loadPart (k _ _ (X _ _ ho)) (wpAny_pure q))
    · cases hcD
  ne := fun h tp dd its n sl X htp => by
    obtain ⟨cdD, hcD, _⟩ := any_some T.hd
    refine Bool.eq_false_iff.mpr fun q => ?_
    have e : D = tp := Value.ref.inj (beq_iff_eq.mp q)
    subst e
    unfold clsIn at hcD
    split at hcD
    · rename_i c' d' cd' sl' ho
      have z := (X _ _ ho).symm.trans htp
      cases z
    · cases hcD
  ca := fun X ⟨_, _, I⟩ k => kin_classD T X I k
end
section
variable {X : Cx} {pins : List (Addr × Obj)} {σ : L2.St} {H : Hp} {s : Shared}
theorem err_inst {a C : Addr} {d : Option Addr} (I : Inv X pins σ H s) (ha : H a = some (ErrO (.ref C) d a)) (hd : ∀ dx, d = some dx → ∃ fs, H dx = some (.xd fs)) : ∃ ox od, PySem.W.InstAt s.heap a ox C od := by
  have x : ObjOk X.prog X.w H s.heap a (ErrO (.ref C) d a) := I.hok a _ ha
  obtain ⟨⟨oe, vs, hget, hz, hv⟩, _⟩ := x
  have no : PySem.W.notCls oe = true := by unfold PySem.W.notCls; rw [hv] <;> rfl
  cases d with
  | none => exact ⟨oe, none, hget, hz.1, no, by rw [hz.2]; trivial⟩
  | some dx =>
    obtain ⟨fs, ed⟩ := hd dx rfl
    have hx : ObjOk X.prog X.w H s.heap dx (.xd fs) := I.hok dx _ ed
    obtain ⟨mA, hns, hr⟩ := hx
    obtain ⟨od, ho, hl⟩ := lookIn_ns hns
    exact ⟨oe, some od, hget, hz.1, no, by rw [hz.2]; exact ho⟩
noncomputable def rIsErr (K : PySem.W.Frag) : List V → Hp → VK → Prop := fun xs H Q => ∃ (a C : Addr) (d : Option Addr) (c : V) (u : Value) (b : Bool), xs = [.ref a, c] ∧ H a = some (ErrO (.ref C) d a) ∧ (∀ dx, d = some dx → ∃ fs, H dx = some (.xd fs)) ∧ ExcC K C ∧ ClsV c u ∧ PySem.W.kitOne K (.ref C) u = some b ∧ Q (.bl b) H
theorem call_isErr : CallR X (.builtin "isinstance") (rIsErr X.K) := by
  intro pins s σ H xs us Q I r h
  obtain ⟨a, C, d, c, u, b, rfl, ha, hd, T, k, e, q⟩ := h
  obtain ⟨u1, u2, rfl, r1, r2⟩ := vals2 r
  have e2 := k.eq r2
  subst e2
  obtain rfl : u1 = Value.ref a := r1
  exact PySem.W.kia_one (kitx_err T) I.kIn (err_inst I ha hd) e (fun z => nomatch z) fun tk => ⟨.bl b, H, I.tok tk, rfl, q⟩
end
end Tw
namespace Tw
open PySem PySem.Spec PyProof.Rows L2 TL
section
variable {X : Cx} {Γ : List Slot} {α β γ : Type} {i : Rep α} {j : Rep β} {l : Rep γ} {pos p p2 : Pos} {e a b c elt tg it : Expr} {es : List Expr} {E : SE} {rest body : List Stmt}
theorem ev_isiE {α : Type} [i : Rep α] [t : IsErr α] {x : α} {n c : Str} {k : Bool} (hm : X.mg "isinstance" = none) (hx : XC X.K X.mg n) (hc : XC X.K X.mg c) (hk : XSub X.K n c k) (h : EV X Γ e x) (hn : autoParam (t.cls x = n) aRfl) (hg : autoParam (Gl X "isinstance") aRfl) (hgT : autoParam (Gl X c) aRfl) (hdT : autoParam ((c == ("__debug__" : Str)) = false) aDec)
    (hs : autoParam (starEach [e, .Name c p2] X.env = (false, eval e X.env) :: starEach [.Name c p2] X.env) aStar) (hs2 : autoParam (starEach [.Name c p2] X.env = (false, eval (.Name c p2) X.env) :: starEach [] X.env) aStar) (hpl : autoParam ((backTo pos (starEach [.Name c p2] X.env)).any (·.1) = false) aPl) :
    EV X Γ (.Call (.Name "isinstance" p) [e, .Name c p2] [] pos) k := fun B F H σ Q L q => by
  obtain ⟨D, xD, gD⟩ := hc
  obtain ⟨C, xC, gC⟩ := hx
  refine WE.of (pe_callB call_isErr hg hm (by decide +kernel) (pa_cons peW (pa_cons (pe_glob (v := .ref D) hgT gD rfl hdT) pa_nil hs2) hs) (by decide) (by decide) hs hpl) (h B F H σ _ L fun v F1 H1 e1 r1 => ?_)
  obtain ⟨d, ⟨ad, C', rfl, ha, hC⟩, hd⟩ := t.at_ r1
  rw [hn] at hC
  obtain rfl := ns_one xC.ns hC
  have s1 := (L.step e1).same
  exact ⟨ad, C', d, .ref D, .ref D, k, rfl, s1 _ _ ha, fun dx z => by obtain ⟨fs, y⟩ := hd dx z; exact ⟨fs, s1 _ _ y⟩, xC.is, .own D, (hk C' D xC.ns xD.ns).2, q _ F1 H1 e1 rfl⟩
noncomputable def XFld (K : PySem.W.Frag) (n f : Str) : Prop := ∀ C, PySem.W.nsIn K mainGlobals n = some (some (.ref C)) → PySem.W.findIn K (.ref C) f = some none
class NonN (α : Type) [i : Rep α] : Prop where
  nn : ∀ {K F v} {x : α}, i.rp K F v x → v ≠ .non
noncomputable instance : NonN Int := ⟨fun {_ _ v x} h z => by obtain rfl : v = .int x := h; cases z⟩
noncomputable instance : NonN Bool := ⟨fun {_ _ v x} h z => by obtain rfl : v = .bl x := h; cases z⟩
noncomputable instance : NonN (List Nat) := ⟨fun {_ _ v x} h z => by obtain rfl : v = .str (sx x) := h; cases z⟩
noncomputable instance {α : Type} [i : Rep α] : NonN (List α) := ⟨fun h z => by obtain ⟨a, vs, rfl, _⟩ := h; cases z⟩
noncomputable instance {α : Type} [i : Rep α] : NonN (Tup α) := ⟨fun h z => by obtain ⟨a, vs, rfl, _⟩ := h; cases z⟩
noncomputable instance {α β : Type} [i : Rep α] [j : Rep β] : NonN (α × β) := ⟨fun h z => by obtain ⟨a, u, w, rfl, _⟩ := h; cases z⟩
noncomputable instance : NonN Err := ⟨fun h z => by obtain ⟨a, u, rfl, _⟩ := h; cases z⟩
noncomputable instance {α : Type} [i : Rep α] : NonN (ErrW α) := ⟨fun h z => by obtain ⟨a, u, ⟨_, _, rfl, _⟩, _⟩ := h; cases z⟩
theorem o_isNo {x : α} [NonN α] : OB X (compareOp .Is) x () false := ob_flat op_isN fun F H v u Q s r1 r2 q => ⟨r2, by
  rw [decide_eq_false (NonN.nn r1)]
  exact q _ rfl⟩
theorem o_notNo {x : α} [NonN α] : OB X (compareOp .IsNot) x () true := ob_flat op_notN fun F H v u Q s r1 r2 q => ⟨r2, by
  rw [decide_eq_false (NonN.nn r1)]
  exact q _ rfl⟩
theorem o_isU : OB X (compareOp .Is) () () true := ob_flat op_isN fun F H v u Q s r1 r2 q => ⟨r2, by
  obtain rfl : v = .non := r1
  exact q _ rfl⟩
theorem o_notU : OB X (compareOp .IsNot) () () false := ob_flat op_notN fun F H v u Q s r1 r2 q => ⟨r2, by
  obtain rfl : v = .non := r1
  exact q _ rfl⟩
theorem o_isO {x : Option α} [NonN α] : OB X (compareOp .Is) x () x.isNone := by
  cases x with
  | none => exact fun F H v u Q s r1 r2 => o_isU F H v u Q s r1 r2
  | some x => exact fun F H v u Q s r1 r2 => o_isNo (x := x) F H v u Q s r1 r2
theorem o_notO {x : Option α} [NonN α] : OB X (compareOp .IsNot) x () x.isSome := by
  cases x with
  | none => exact fun F H v u Q s r1 r2 => o_notU F H v u Q s r1 r2
  | some x => exact fun F H v u Q s r1 r2 => o_notNo (x := x) F H v u Q s r1 r2
theorem ev_un {x : α} (h : EV X Γ e (some x)) : EV X Γ e x := fun B F H σ Q L q => h B F H σ Q L fun v F' H' ex r => q v F' H' ex r
noncomputable def EXX (X : Cx) (Γ : List Slot) (e : Expr) (P : Ret → Prop) (R : Exn → Prop) : Prop :=
  ∀ B F H σ Q, Lc X.K B F H σ Γ → (∀ r v F' H', P r → Ext F H F' H' → ROk X.K (Nw H) F' H' v r → Q v H') → (∀ x u d F' H', R x → Ext F H F' H' → XOk X.K (Nw H) F' H' u d x → XW X u d σ H') → WE X e σ H Q
theorem exx_call {n : Str} {k : Nat} {ps : List Str} {S : Spec} {A : List Slot} {P : Ret → Prop} {R : Exn → Prop} (G : Has X.prog X.w X.K X.mg X.base k n ps S) (hr : Room k X.A) (ha : EA X Γ (e :: es) A)
    (hS : ∀ P' R', (∀ r, P r → P' r) → (∀ x, R x → R' x) → S A P' R') (hg : autoParam (Gl X n) aRfl) (hd : autoParam ((n == ("__debug__" : Str)) = false) aDec)
    (he : autoParam (starEach (e :: es) X.env = (false, eval e X.env) :: starEach es X.env) aStar) (hpl : autoParam ((backTo pos (starEach es X.env)).any (·.1) = false) aPl) : EXX X Γ (.Call (.Name n p) (e :: es) [] pos) P R := fun B F H σ Q L q z => by
  obtain ⟨f, fd, hm, hk, hb, G⟩ := G.ex
  refine WE.of (pe_callS (E := fun σ cls d H => XW X cls d σ H) G hr hg hm hk hb (fun σ => passAt takesW σ) paW hd he hpl) (ha B F H σ _ L fun vs F1 H1 e1 r1 => ?_)
  exact ⟨F1, A, (L.step e1).same, r1.toO, r1.apart, hS _ _ (fun r hr v F2 H2 e2 ok => q r v F2 H2 hr (e1.thenM e2 fun _ m => (r1.ma m).elim) (ok.imp fun b h => e1.hs.free (h.elim id fun m => (r1.ma m).elim))) fun x hx u d F2 H2 e2 ok => z x u d F2 H2 hx (e1.thenM e2 fun _ m => (r1.ma m).elim) (ok.imp fun b h => e1.hs.free (h.elim id fun m => (r1.ma m).elim))⟩
theorem st_setX (k : Nat) {n : Str} {x : α} {R : Exn → Prop} (he : EXX X Γ e (fun r => r = .val i x) R) (hr : ST X rest (Γ.set k (.val i x)) E) (hR : ∀ x, R x → E.ex Γ x) (hN : X.N.Nodup) (hi : autoParam (X.N[k]? = some n) aRfl) (hx : autoParam (L2.Loc X.env.scope n) aLoc)
    (hs : autoParam (swapsWith e (some (.Name n p)) pos.line X.env = pure false) aRfl) (hf : autoParam (X.fn n = true ∨ X.env.scope.names.lookup n = some .local) Tw.aFn) : ST X (.Assign [.Name n p] e pos :: rest) Γ E := fun B F H σ D L ed =>
  WP.cons (ps_set hN hi hx peW hs hf) (he B F H σ _ L (fun r v F1 H1 er e1 r1 => by subst er; exact hr B F1 H1 _ D ((L.step e1).putV k r1) (ed.weak e1.ff)) fun x u d F1 H1 hx e1 ok => ed.exS (Same.refl F) (hR x hx) L e1 ok)
theorem st_setR (k : Nat) {n : Str} {R : Exn → Prop} (he : EXX X Γ e (fun _ => False) R) (hR : ∀ x, R x → E.ex Γ x) (hN : X.N.Nodup) (hi : autoParam (X.N[k]? = some n) aRfl) (hx : autoParam (L2.Loc X.env.scope n) aLoc)
    (hs : autoParam (swapsWith e (some (.Name n p)) pos.line X.env = pure false) aRfl) (hf : autoParam (X.fn n = true ∨ X.env.scope.names.lookup n = some .local) Tw.aFn) : ST X (.Assign [.Name n p] e pos :: rest) Γ E := fun B F H σ D L ed =>
  WP.cons (ps_set hN hi hx peW hs hf) (he B F H σ _ L (fun r v F1 H1 er e1 r1 => er.elim) fun x u d F1 H1 hx e1 ok => ed.exS (Same.refl F) (hR x hx) L e1 ok)
theorem raisesX {n : Str} {C : Addr} (x : XCls X.K n C) : Raises X (.ref C) := raises_own x.is.hs x.ty
theorem st_raise0 {n m : Str} {j : Nat} {p1 p3 : Pos} (hc : XC X.K X.mg n) (hp : XPlain X.K n) (hE : E.ex Γ ⟨n, "", .no⟩) (hcalm : autoParam (X.calm = true) aRfl) (hg : autoParam (Gl X n) aRfl) (hdb : autoParam ((n == ("__debug__" : Str)) = false) aDec) :
    ST X (.Raise (some (.Call (.Name n p) [.Constant (.str m) j p2] [] p1)) none p3 :: rest) Γ E := fun B F H σ D L ed => by
  obtain ⟨C, xC, gC⟩ := hc
  refine WP.cons (ps_raise hcalm takesW (pmk_own PySem.F.excBase_ValueError (hp C xC.ns) gC xC.kp (raisesX xC) hg hdb)) ?_
  exact ed.exS (Same.refl F) hE L (Ext.refl L.same) ⟨C, rfl, xC.ns, rfl⟩
noncomputable def InitSp (K : PySem.W.Frag) (C : Addr) (fld : Str) : Sp := fun vs H Q E => ∃ (a : Addr) (v : V), vs = [.ref a, v] ∧ H a = some (exo a C none) ∧ ∀ dx, H dx = none → dx ≠ a → Q .non (upd (upd H dx (exd dx [(fld, v)])) a (exo a C (some dx)))
structure XInit (P : Program) (w : World) (K : PySem.W.Frag) (mg : Str → Option Value) (base : Heap) (k : Nat) (n fld : Str) : Prop where
  ex : ∀ C, PySem.W.nsIn K mainGlobals n = some (some (.ref C)) → OexC K C ∧ ∃ (fI : Addr) (fd : FuncData) (ps : List Str), PySem.W.findIn K (.ref C) "__init__" = some (some (.ref fI)) ∧ PySem.W.typeIn K (.ref fI) = some (.type "function") ∧ Binds K fd ps [] ∧ FnOk P w K mg base (L2.CX P w) k fI fd ps (InitSp K C fld)
theorem st_raise1 {n fld : Str} {y : α} {k : Nat} {p1 p3 : Pos} (hc : XC X.K X.mg n) (hi : XInit X.prog X.w X.K X.mg X.base k n fld) (hr : Room (k + 1) X.A) (he : EV X Γ e y) (hE : E.ex Γ ⟨n, fld, .val i y⟩) (hcalm : autoParam (X.calm = true) aRfl) (hg : autoParam (Gl X n) aRfl) (hdb : autoParam ((n == ("__debug__" : Str)) = false) aDec)
    (hs : autoParam (starEach [e] X.env = (false, eval e X.env) :: starEach [] X.env) aStar) (hpl : autoParam ((backTo p1 (starEach [] X.env)).any (·.1) = false) aPl) :
    ST X (.Raise (some (.Call (.Name n p) [e] [] p1)) none p3 :: rest) Γ E := fun B F H σ D L ed => by
  obtain ⟨C, xC, gC⟩ := hc
  obtain ⟨T, fI, fd, ps, iC, tI, hb, F1⟩ := hi.ex C xC.ns
  refine WP.cons (ps_raise hcalm takesW (pmk_oex T iC tI F1 hr hb .nil passL hg gC paW hdb hs hpl)) ?_
  refine ea_cons he ea_nil hs B F H σ _ L fun vs F1 H1 e1 r1 => ?_
  match vs, r1 with
  | [w], ⟨rw1, _⟩ =>
  refine ⟨by show 1 ≤ 1000; decide, fun a ha => ⟨a, w, rfl, upd_same, fun dx hdx hne => ⟨rfl, dx, [(fld, w)], upd_same, by rw [upd_ne hne, upd_same], ?_, ?_⟩⟩⟩
  · rw [upd_ne hne] at hdx; exact hdx
  · have hd1 : H1 dx = none := by rw [upd_ne hne] at hdx; exact hdx
    have s1 := (L.step e1).same
    have eq : upd (del (upd (upd (upd H1 a (exo a C none)) dx (exd dx [(fld, w)])) a (exo a C (some dx))) a) dx (.xd [(fld, w)]) = upd H1 dx (.xd [(fld, w)]) := by
      funext b
      by_cases hbd : b = dx
      · subst hbd; rw [upd_same, upd_same]
      · rw [upd_ne hbd, upd_ne hbd]
        by_cases hba : b = a
        · subst hba; rw [del_same, ha]
        · rw [del_ne hba, upd_ne hba, upd_ne hbd, upd_ne hba]
    rw [eq]
    have e2 := Ext.apart (o := .xd [(fld, w)]) s1 hd1
    refine ed.exS (Same.refl F) hE L (e1.trans e2) ⟨C, rfl, xC.ns, dx, w, rfl, e1.hs.free hd1, s1.free hd1, upd_same, rw1⟩
end
section
variable {P : Program} {w : World} {K : PySem.W.Frag} {mg : Str → Option Value} {base : Heap}
theorem Has.ofX {n : Str} {st : Stmt} {N ps : List Str} {k : Nat} {S : Spec} (D : Df K mg n st ps) (sc : FnScope N ps (defScope st)) (len : ∀ A Q R, S A Q R → A.length = ps.length)
    (body : ∀ (f : Addr) (cdv : Value) (A : Around) (outer : List Env) (s : Shared) (H : Hp) (E : XK), Room k (A.deeper (envOfC n (defScope st) s.heap.objs.size f cdv)) → ∀ Γ Q R, S Γ Q R →
      ST (cxOf (L2.CX P w) P w K mg base N n (defScope st) f cdv A outer s H E) (defBody st) (Γ ++ List.replicate (N.length - ps.length) .no) (finX Q R)) :
    Has P w K mg base (k + 1) n ps S := by
  obtain ⟨f, fd, F, hb, hm⟩ := D.ex
  refine ⟨f, fd, hm, F.kp, hb, F.okX sc (fun vs H Q E ⟨F0, A, s, r, ap, h⟩ => ?_) (fun cdv A outer s H vs Q E hr h => ?_)⟩
  · rw [r.len]; exact len _ _ _ h
  · obtain ⟨F0, A0, sm, r, ap, h⟩ := h
    refine ⟨_, psW, ?_⟩
    have hl := len _ _ _ h
    have L0 := lc_start (K := K) sm r ap (N.length - ps.length)
    have L1 : Lc K ⟨F0, H, MA A0⟩ F0 H (L2.start N vs) (A0 ++ List.replicate (N.length - ps.length) .no) := by
      unfold L2.start
      rw [show vs.length = ps.length from r.len.trans hl]
      exact L0
    refine body f cdv A outer s H E hr A0 _ _ h ⟨F0, H, MA A0⟩ F0 H _ _ L1 ⟨fun F' H' σ' Γ' _ hq L => ?_, fun r v F' H' hq ex ok => hq v F' H' ex ok, fun _ _ _ _ _ z => z.elim, fun _ _ _ _ _ z => z.elim, fun F1 H1 σ' Γ' x u d _ hq L ok => ?_⟩
    · exact hq .non F' H' L.ext rfl
    · exact XW.of (L2.takes_of rfl rfl rfl rfl) (hq u d F1 H1 L.ext (ok.imp fun b h => h.1))
end
end Tw
namespace Tw
open PySem PySem.Spec PyProof.Rows L2 TL
section
variable {X : Cx} {pins : List (Addr × Obj)} {σ : L2.St} {H : Hp} {s : Shared}
theorem inv_suite (I : Inv X pins σ H s) (a : Addr) : Inv (X.suite a (X.pn ++ pins)) [] σ H s :=
  ⟨I.ok.suite _ _, I.os, I.bare, I.base, I.loc, I.cell, I.free, I.freeC, fun p hp => I.pin p (by rw [List.append_nil] at hp; exact hp), I.hok, I.len⟩
theorem inv_unsuite {a : Addr} {pn' : List (Addr × Obj)} (I : Inv (X.suite a (X.pn ++ pins)) pn' σ H s) (ok : X.Ok) : Inv X pins σ H s :=
  ⟨ok, I.os, I.bare, I.base, I.loc, I.cell, I.free, I.freeC, fun p hp => I.pin p (List.mem_append_left _ hp), I.hok, I.len⟩
theorem inv_caught {a : Addr} {cls : Value} {d : Option Addr} {oe : Obj} {vs : Array Value} {s0 : Shared} (I : Inv X pins σ H s) (J : Inv X pins σ H s0) (h0 : s0.heap.get? a = none) (na : H a = none) (nL : a ≠ X.env.locals) (e : s.heap.get? a = some oe) (z : Zc cls d oe) (hd : oe.data = .fields vs) : Inv X pins σ (upd H a (ErrO cls d a)) s := by
  have n0 : ∀ b o, X.s_0.heap.get? b = some o → b ∉ X.ex → b ≠ a := fun b o q hx z => by
    subst z
    obtain ⟨o', q'⟩ := J.base.there b o q hx
    rw [h0] at q'; cases q'
  have nH : ∀ b o, H b = some o → b ≠ a := fun b o q z => by rw [z, na] at q; cases q
  refine ⟨I.ok, I.os, I.bare, ⟨I.base.keep, I.base.slot, fun b o q n hx => ?_, I.base.there, fun b xs q => ?_, fun b o v q => ?_, fun b ps q => ?_⟩, I.loc, I.cell, ?_, fun x c q => ?_, fun p hp => ?_, ?_, I.len⟩
  · rw [upd_ne (n0 b o q hx)]; exact I.base.free b o q n hx
  · have := I.base.tups b xs q
    rw [upd_ne (nH _ _ this)]; exact this
  · have := I.base.frzs b o v q
    rw [upd_ne (nH _ _ this)]; exact this
  · obtain ⟨m, this⟩ := I.base.tbls b ps q
    exact ⟨m, by rw [upd_ne (nH _ _ this)]; exact this⟩
  · rw [upd_ne (Ne.symm nL)]; exact I.free
  · have nc : c ≠ a := fun y => by
      obtain ⟨v, o', q1, q2⟩ := I.cell x c q
      rw [y, e] at q1
      cases q1
      rw [hd] at q2; cases q2
    rw [upd_ne nc]; exact I.freeC x c q
  · obtain ⟨p1, p2, p3, p4, p5⟩ := I.pin p hp
    obtain ⟨q1, _⟩ := J.pin p hp
    have np : p.1 ≠ a := fun y => by rw [y, h0] at q1; cases q1
    exact ⟨p1, by rw [upd_ne np]; exact p2, p3, p4, p5⟩
  · intro b o q
    by_cases hb : b = a
    · subst hb
      rw [upd_same] at q
      cases q
      exact errO_ok e z hd
    · rw [upd_ne hb] at q
      exact (I.hok b o q).stay (fun _ _ _ r => r) (fun c r => by rw [upd_ne (nH _ _ r)]; exact r) fun c xs r => by rw [upd_ne (nH _ _ r)]; exact r
end
noncomputable def wKept (K : PySem.W.Frag) (c : Value) (i : Nat) (ts : Addr → TS) (Wout : WX) (D : Ends) : WX := fun cls d σ H =>
  ∃ b, PySem.W.exmOne K cls c = some b ∧ (b = true → ∀ a, H a = none → ts a { nx := fun σ' H' => D.nx (σ'.set i none) H', rt := D.rt, bk := fun σ' H' => D.bk (σ'.set i none) H', ct := fun σ' H' => D.ct (σ'.set i none) H' } (σ.set i (some (.ref a))) (upd H a (ErrO cls d a))) ∧
    (b = false → Wout cls d σ H)
section
variable {X : Cx} {x n : Str} {c : Value} {i : Nat} {body suite : List Stmt} {b₀ : Stmt} {np pos pos' : Pos} {tb : WX → TS} {ts : Addr → TS} {Wout : WX}
theorem ps_try_kept (hs : X.stack = X.env :: X.outer) (hf : X.env.frame = some X.env.locals) (hN : X.N.Nodup) (hi : X.N[i]? = some n) (hln : X.env.kindOf n = some .local) (hc : Names X x c) (tk : Takes X Wout)
    (hb : ∀ (W : WX) (pn : List (Addr × Obj)) (xe : Value → Shared → Prop), Takes (X.tr pn xe) W → PassesOwn (model X.prog X.w) X.A X.env xe → PSs (X.tr pn xe) body (tb W))
    (hsu : ∀ (a : Addr) (pn : List (Addr × Obj)), PSs (X.suite a pn) (b₀ :: suite) (ts a)) :
    PS X (.Try body [.ExceptHandler (some (.Name x np)) (some n) (b₀ :: suite) pos'] [] [] pos) (fun D σ H => tb (wKept X.K c i ts Wout D) D σ H) := by
  refine ⟨fun pins s σ H D I h => ?_⟩
  have ok := I.ok
  have hfr : X.A.frames = some (X.env :: X.outer) := by rw [ok.frames, hs]
  have hloc : L2.Loc X.env.scope n := .inl hln
  refine wpAny_Try_except ?_
  refine wpAny_mono ((hb (wKept X.K c i ts Wout D) (X.pn ++ pins) (fun e s₁ => wpAny (model X.prog X.w) X.A (noteFrame e X.env) (fun _ s₂ => wpAny (model X.prog X.w) X.A (setFlight e none) (fun _ s₃ =>
    wpAny (model X.prog X.w) X.A (handleBy e X.env [.ExceptHandler (some (.Name x np)) (some n) (b₀ :: suite) pos']) (SP X pins D) X.xe s₃) X.xe s₂) X.xe s₁) (fun u s' xx => ?_) PassesOwn.looking).run [] s σ H D (I.toTry _) h) (fun f s1 hsp => ?_) (fun e s1 he => he)
  · obtain ⟨a, B, sI, pins', σ', H', cls, d, rfl, J', nb, up, sky, na, os, ag, b, hb1, hyes, hno⟩ := xx
    have J : Inv X pins σ' H' sI := J'.ofTry ok
    have sky' : Sky B (X.env :: X.outer) a (Zc cls d) X.env.locals s'.heap := by rw [← hs]; exact sky
    show wpAny (model X.prog X.w) X.A (noteFrame (.ref a) X.env) _ _ _
    refine Sky.land Zc.steady hfr hf sky' fun h3 fl3 up3 => ?_
    have J3 : Inv X pins σ' H' { s' with heap := h3 } := J.landed nb fl3.1 (up.trans up3) os ag
    obtain ⟨oe3, vs3, he3, hz3, hd3⟩ := fl3.there
    have notFr : ∀ {h : Heap} {o : Obj} {vs : Array Value}, h.FunFrames B (X.env :: X.outer) → h.get? a = some o → o.data = .fields vs → a ∉ frs (X.env :: X.outer) := fun {h o vs} ff e dd hm => by
      obtain ⟨_, o', e', hnf⟩ := ff.mem hm
      rw [e] at e'; cases e'
      exact hnf _ dd
    have nfr := notFr fl3.2.2.1 he3 hd3
    have nL : a ≠ X.env.locals := fun z => nfr (List.mem_filterMap.mpr ⟨X.env, List.mem_cons_self, by rw [hf, z]⟩)
    have nF : a ∉ X.fs := fun hm => by
      obtain ⟨e, he, q⟩ := List.mem_filterMap.mp hm
      exact nfr (List.mem_filterMap.mpr ⟨e, List.mem_cons_of_mem _ he, q⟩)
    have nI : sI.heap.get? a = none := by
      cases q : sI.heap.get? a with
      | none => rfl
      | some o =>
        have z := nb a o q (by rw [hs]; exact nfr)
        rw [fl3.2.1] at z; cases z
    have S3 := J3.suite he3 hd3 na nL nF
    refine wpAny_handleBy_cons (codeAny_handlers_test ?_) (by intro q; cases q)
    have LT : PySem.W.Looks (model X.prog X.w) h3 (typeOf (.ref a)) cls := fun A Q E s k q => wpAny_typeOf_ref (k _ _ he3) (by rw [hz3.1]; exact q)
    have LM := PySem.W.exm_one (M := model X.prog X.w) (J3.kIn) LT hb1
    have test : ∀ {Q : Value → Shared → Prop} {E : Value → Shared → Prop}, Q c { s' with heap := h3 } → wpAny (model X.prog X.w) (X.A.mark (some (.ref a))) (eval (.Name x np) X.env) Q E { s' with heap := h3 } := fun {Q E} q => by
      obtain ⟨hg, hdbg, hm | ⟨hm, hv, hnn⟩⟩ := hc
      · exact ld_glob (X := X.suite a ((a, oe3) :: (X.pn ++ pins))) S3 hg hm q hdbg
      · exact ld_blt (X := X.suite a ((a, oe3) :: (X.pn ++ pins))) S3 hg hm hv q hnn hdbg
    refine test (LM.here ?_)
    cases b with
    | true =>
      refine codeAny_handlers_suite_as ?_
      refine HandSPX.lands_againZ fl3 fun h4 fl4 up4 => ?_
      have J4 : Inv X pins σ' H' { s' with heap := h4 } := J.landed nb fl4.1 ((up.trans up3).trans up4) os ag
      obtain ⟨oe4, vs4, he4, hz4, hd4⟩ := fl4.there
      have JT : Inv X pins σ' (upd H' a (ErrO cls d a)) { s' with heap := h4 } := inv_caught J4 J nI na nL he4 hz4 hd4
      have S4 := inv_suite JT a
      refine store_ok (X := X.suite a (X.pn ++ pins)) (v := .ref a) S4 hN hi hloc rfl (fun s5 S5 => ?_) (.inr hln)
      refine wpAny_mono ((hsu a (X.pn ++ pins)).run [] s5 _ _ _ S5 (hyes rfl a na)) (fun f s6 hsp => ?_) (fun _ _ z => False.elim z)
      have end_ : ∀ {σ6 : L2.St} {H6 : Hp} {Q : Shared → Prop}, Inv (X.suite a (X.pn ++ pins)) [] σ6 H6 s6 → (∀ s7, Inv X pins (σ6.set i none) H6 s7 → Q s7) →
          wpAny (model X.prog X.w) X.A (do bindName X.env n .none; unbindBehindTheSuite X.env n pos') (fun _ s7 => Q s7) X.xe s6 := fun {σ6 H6 Q} S6 hq => gone_ok (inv_unsuite S6 ok) hN hi hln hq
      cases f with
      | next =>
        obtain ⟨σ6, H6, S6, q6⟩ := hsp
        exact end_ S6 fun s7 J7 => ⟨_, _, J7, q6⟩
      | brk =>
        obtain ⟨σ6, H6, S6, q6⟩ := hsp
        exact end_ S6 fun s7 J7 => ⟨_, _, J7, q6⟩
      | cont =>
        obtain ⟨σ6, H6, S6, q6⟩ := hsp
        exact end_ S6 fun s7 J7 => ⟨_, _, J7, q6⟩
      | ret u =>
        obtain ⟨v6, σ6, H6, S6, r6, q6⟩ := hsp
        exact end_ S6 fun s7 J7 => ⟨_, _, _, J7, r6, q6⟩
    | false =>
      show wpAny _ X.A (handleBy (.ref a) X.env []) _ _ _
      refine wpAny_handleBy_nil ?_
      obtain ⟨k1, k2, k3, oe, vs, T, oT, ts', he, hz, hd, h1, hr⟩ := id fl3
      unfold PySem.passOn
      refine wpAny_bind (wpAny_field he hd h1 ?_)
      rw [if_neg (show ¬ ((Value.ref T == Value.none) = true) from by simp)]
      have fin : wpAny (model X.prog X.w) X.A (setFlight (.ref a) X.env.frame) (fun _ s4 => wpAny (model X.prog X.w) X.A (throw (.ref a) : Sem Flow) (SP X pins D) X.xe s4) X.xe { s' with heap := h3 } := by
        rw [hf]
        refine HandSPX.setFlight_upZ fl3 fun h4 hh4 up4 => wpAny_throw (tk _ _ ?_)
        exact ⟨a, B, sI, pins, σ', H', cls, d, rfl, J, nb, (up.trans up3).trans up4, .inr (.inr (by rw [hs]; exact hh4)), na, os, ag, hno rfl⟩
      first
        | exact wpAny_bind (wpAny_pure (wpAny_bind fin))
        | exact wpAny_bind fin
  · cases f with
    | next =>
      obtain ⟨σ', H', J', q⟩ := hsp
      exact wpAny_execs_nil ⟨σ', H', J'.ofTry ok, q⟩
    | brk =>
      obtain ⟨σ', H', J', q⟩ := hsp
      exact ⟨σ', H', J'.ofTry ok, q⟩
    | cont =>
      obtain ⟨σ', H', J', q⟩ := hsp
      exact ⟨σ', H', J'.ofTry ok, q⟩
    | ret u =>
      obtain ⟨v, σ', H', J', r, q⟩ := hsp
      exact ⟨v, σ', H', J'.ofTry ok, r, q⟩
end
section
variable {X : Cx} {Γ : List Slot} {α β γ : Type} {pos pos' np p p2 : Pos} {E : SE} {rest body suite : List Stmt} {b₀ : Stmt}
theorem Lc.caught {K : PySem.W.Frag} {B : Bs} {F H : Hp} {σ : L2.St} {Γ : List Slot} {C : Value} {d : Option Addr} {x : Exn} {a : Addr} (L : Lc K B F H σ Γ) (ok : XOk K (fun b => B.nw b ∧ Free Γ b) F H C d x) (ha : H a = none) :
    ∃ F3, Same F F3 ∧ Lc K B F3 (upd H a (ErrO C d a)) σ Γ ∧ SlotOk K B F3 (upd H a (ErrO C d a)) (some (.ref a)) x.slot := by
  obtain ⟨C, rfl, hC, h⟩ := ok
  obtain ⟨cls, fld, why⟩ := x
  cases why with
  | no =>
    have hd : d = none := h
    subst hd
    have e2 := Ext.new (o := ErrO (.ref C) none a) L.same ha
    exact ⟨_, e2.ff, L.step e2, .ref a, rfl, a, C, rfl, upd_same, hC⟩
  | own o => exact h.elim
  | val i y =>
    obtain ⟨dx, w, rfl, ⟨nb, nf⟩, fd, hd2, r⟩ := h
    have sm : Same F (upd F dx (.xd [(fld, w)])) := fun b u q => by rw [upd_ne (ne_of_none q fd)]; exact q
    have sm2 : Same (upd F dx (.xd [(fld, w)])) H := fun b u q => by
      by_cases hb : b = dx
      · subst hb; rw [upd_same] at q; rw [← q]; exact hd2
      · rw [upd_ne hb] at q; exact L.same _ _ q
    have L1 : Lc K B (upd F dx (.xd [(fld, w)])) H σ Γ := by
      refine ⟨⟨L.ext.ff.trans sm, sm2, L.ext.hh, fun b hm h1 h2 => ?_, L.ext.th⟩, L.len, fun q t hq => ?_, L.ap⟩
      · have : b ≠ dx := fun z => by
          subst z
          exact nb.elim (fun z => h2 z) hm
        rw [upd_ne this]; exact L.ext.nwM b hm h1 h2
      · have old := L.ok q t hq
        cases t with
        | no => trivial
        | val i x => obtain ⟨v, e2, r⟩ := old; exact ⟨v, e2, i.mono sm r⟩
        | own o2 =>
          obtain ⟨u, eu, ok2, f2⟩ := old
          exact ⟨u, eu, o2.stay sm (fun _ _ _ h => h) ok2, fun b hb => ⟨by rw [upd_ne (fun (z : b = dx) => nf q o2 hq (by rw [← z]; exact hb))]; exact (f2 b hb).1, (f2 b hb).2⟩⟩
    have e2 := Ext.new (o := ErrO (.ref C) (some dx) a) sm2 ha
    refine ⟨_, sm.trans e2.ff, L1.step e2, .ref a, rfl, dx, w, ⟨a, C, rfl, upd_same, hC⟩, ?_, i.mono (sm.trans e2.ff) r⟩
    rw [upd_ne (fun z => by subst z; rw [ha] at hd2; cases hd2), upd_same]
theorem exn_own (x : Exn) : x.slot.isOwn = false := by
  obtain ⟨cls, fld, why⟩ := x
  cases why <;> rfl
theorem st_try (m : Nat) {x n : Str} (hN : X.N.Nodup) (hc : XC X.K X.mg x)
    (hb : ∀ pn xe, PassesOwn (model X.prog X.w) X.A X.env xe → ST (X.tr pn xe) body Γ { E with nx := fun Γ' => ST X rest Γ' E, ex := fun Γ' y => (XSub X.K y.cls x true ∧ ∀ a pn, ST (X.suite a pn) (b₀ :: suite) (Γ'.set m y.slot)
        { nx := fun Γ2 => ST X rest (Γ2.set m .no) E, rt := E.rt, bk := fun Γ2 => E.bk (Γ2.set m .no), ct := fun Γ2 => E.ct (Γ2.set m .no), ex := fun _ _ => False }) ∨ (XSub X.K y.cls x false ∧ E.ex Γ' y) })
    (hi : autoParam (X.N[m]? = some n) aRfl) (hln : autoParam (X.env.kindOf n = some .local) aRfl) (hg : autoParam (Gl X x) aRfl) (hdb : autoParam ((x == ("__debug__" : Str)) = false) aDec) (hs : autoParam (X.stack = X.env :: X.outer) aRfl) (hf : autoParam (X.env.frame = some X.env.locals) aRfl) :
    ST X (.Try body [.ExceptHandler (some (.Name x np)) (some n) (b₀ :: suite) pos'] [] [] pos :: rest) Γ E := fun B F H σ D L ed => by
  obtain ⟨C, xC, gC⟩ := hc
  refine WP.cons (ps_try_kept (tb := fun W D σ H => ∀ pn xe, Takes (X.tr pn xe) W → PassesOwn (model X.prog X.w) X.A X.env xe → WP (X.tr pn xe) body D σ H) (ts := fun a D σ H => ∀ pn, WP (X.suite a pn) (b₀ :: suite) D σ H) hs hf hN hi hln ⟨hg, hdb, .inl gC⟩ takesW
    (fun W pn xe tk hp => ⟨fun pins s σ H D I h => (h pn xe tk hp).go pins s I⟩) (fun a pn => ⟨fun pins s σ H D I h => (h pn).go pins s I⟩)) ?_
  intro pn xe tk hp
  refine hb pn xe hp B F H σ _ L ⟨fun F1 H1 σ1 Γ1 s1 h1 L1 => h1 B F1 H1 σ1 D L1 (ed.weak s1), ed.rt, ed.bk, ed.ct, fun F1 H1 σ1 Γ1 y u d s1 h1 L1 ok => XW.of tk ?_⟩
  obtain ⟨Cy, eu, nCy, _⟩ := id ok
  rcases h1 with ⟨hsub, hsu⟩ | ⟨hsub, hE⟩
  · subst eu
    refine ⟨true, (hsub Cy C nCy xC.ns).1, fun _ a ha pn => ?_, fun z => nomatch z⟩
    obtain ⟨F3, s3, L3, so⟩ := L1.caught ok ha
    have L4 : Lc X.K B F3 _ (σ1.set m (some (.ref a))) (Γ1.set m y.slot) := L3.put m (exn_own y) so
    refine hsu a pn B F3 _ _ _ L4 ⟨fun F5 H5 σ5 Γ5 s5 h5 L5 => ?_, ed.rt, fun F5 H5 σ5 Γ5 s5 h5 L5 => ?_, fun F5 H5 σ5 Γ5 s5 h5 L5 => ?_, fun _ _ _ _ _ _ _ _ z => z.elim⟩
    · exact h5 B F5 H5 _ D (L5.putN m none) (ed.weak ((s1.trans s3).trans s5))
    · exact ed.bk F5 H5 _ _ ((s1.trans s3).trans s5) h5 (L5.putN m none)
    · exact ed.ct F5 H5 _ _ ((s1.trans s3).trans s5) h5 (L5.putN m none)
  · subst eu
    exact ⟨false, (hsub Cy C nCy xC.ns).1, (fun z => nomatch z), fun _ => ed.ex F1 H1 σ1 Γ1 y _ d s1 hE L1 ok⟩
end
end Tw
namespace Tw
open PySem PySem.Spec PyProof.Rows L2 TL
section
variable {X : Cx} {Γ : List Slot} {α β γ : Type} {i : Rep α} {j : Rep β} {l : Rep γ} {pos p p2 : Pos} {e a b c elt tg it : Expr} {es : List Expr} {E : SE} {rest body : List Stmt}
noncomputable def enumL {A : Type} (xs : List A) : List (Int × A) := (xs.zipIdx).map fun p => ((p.2 : Int), p.1)
theorem enumL_get {A : Type} {xs : List A} {k : Nat} {x : Int × A} (h : (enumL xs)[k]? = some x) : x.1 = (k : Int) ∧ xs[k]? = some x.2 := by
  unfold enumL at h
  rw [List.getElem?_map, List.getElem?_zipIdx] at h
  cases q : xs[k]? with
  | none => rw [q] at h; cases h
  | some y =>
    rw [q] at h
    have : x = ((k : Int), y) := by simpa using h.symm
    rw [this]
    exact ⟨rfl, rfl⟩
theorem enumL_len {A : Type} {xs : List A} : (enumL xs).length = xs.length := by unfold enumL; simp
theorem src_enum {xs : List α} {elts : List Expr} {kk : Nat} {tpos p2 : Pos} (hm : X.mg "enumerate" = none) (ha : EV X Γ a xs) (hg : autoParam (Gl X "enumerate") aRfl) (hs : autoParam (starEach [a] X.env = [(false, eval a X.env)]) aStar) : Src X Γ (.Tuple elts kk tpos) (.Call (.Name "enumerate" p) [a] [] p2) (enumL xs) :=
  ⟨_, pi_enum hg hm (pa_cons peW pa_nil hs) hs, fun B F H σ R L q => ha B F H σ _ L fun v F1 H1 e1 r1 => by
    obtain ⟨a1, vs, rfl, h1, p1⟩ := r1
    have s2 := (L.step e1).same
    refine ⟨a1, vs, rfl, sq_of s2 h1, q _ F1 H1 e1 fun F3 H3 s3 s4 => ⟨fun k x hx => ?_, vs, sq_of s4 (s3 _ _ h1), ?_⟩⟩
    · obtain ⟨n, y⟩ := x
      obtain ⟨hx1, hx2⟩ := enumL_get hx
      obtain ⟨w1, hw1, r1'⟩ := pgetL p1 hx2
      refine ⟨⟨vs, w1, sq_of s4 (s3 _ _ h1), hw1⟩, fun v H4 hy => ?_⟩
      obtain ⟨T, y1, rfl, hT, rfl, g1⟩ := hy
      have z1 : w1 = y1 := Option.some.inj (hw1.symm.trans (g1 vs (sq_of s4 (s3 _ _ h1))))
      subst z1
      have ea := Ext.new (o := .tup [.int (k : Nat), w1]) s4 hT
      exact ⟨_, ea, T, .int (k : Nat), w1, rfl, upd_same, (show V.int (k : Nat) = V.int n by rw [show n = (k : Int) from hx1]), i.mono (s3.trans ea.ff) r1'⟩
    · rw [enumL_len, Paired.length p1]; exact Nat.le_refl _⟩
theorem en_addL {xs ys : List α} (ha : EV X Γ a xs) (hb : EV X Γ b ys) (hz : xs.length + ys.length ≤ sizeLine) : EN X Γ (.BinOp a .Add b pos) (xs ++ ys) := fun B F H σ Q L q =>
  WE.of (pe_op op_cat peW peW) (ha B F H σ _ L fun v F1 H1 e1 r1 => hb B F1 H1 σ _ (L.step e1) fun u F2 H2 e2 r2 => by
    obtain ⟨a1, vs, rfl, h1, p1⟩ := r1
    obtain ⟨a2, ws, rfl, h2, p2⟩ := r2
    have e12 := e1.trans e2
    have s2 := (L.step e12).same
    refine ⟨a1, a2, vs, ws, rfl, rfl, s2 _ _ (e2.ff _ _ h1), s2 _ _ h2, by rw [Paired.length p1, Paired.length p2]; exact hz, fun p hp => ?_⟩
    exact q p (vs ++ ws) F2 _ (e12.trans (Ext.apart s2 hp)) (e12.hs.free hp) (s2.free hp) upd_same (papp (Paired.mapP p1 fun _ _ z => i.mono e2.ff z) p2))
noncomputable def ownP {α β : Type} (i : Rep α) (j : Rep β) (a l m : Addr) (xs : List α) (ys : List β) : Own where
  fp := [a, l, m]
  root := .ref a
  ok := fun K F H v => v = .ref a ∧ (a ≠ l ∧ a ≠ m ∧ l ≠ m) ∧ H a = some (.tup [.ref l, .ref m]) ∧ (∃ vs, H l = some (.lst vs) ∧ Paired (fun u x => i.rp K F u x) vs xs) ∧ ∃ ws, H m = some (.lst ws) ∧ Paired (fun u x => j.rp K F u x) ws ys
  stay := fun s k ⟨e, n, h, ⟨vs, h1, p1⟩, ws, h2, p2⟩ => ⟨e, n, k a (by simp) _ h, ⟨vs, k l (by simp) _ h1, Paired.mapP p1 fun _ _ q => i.mono s q⟩, ws, k m (by simp) _ h2, Paired.mapP p2 fun _ _ q => j.mono s q⟩
  there := fun ⟨_, _, h, ⟨vs, h1, _⟩, ws, h2, _⟩ b hb z => by
    have hb' : b = a ∨ b = l ∨ b = m := by simpa using hb
    rcases hb' with rfl | rfl | rfl
    · rw [h] at z; cases z
    · rw [h1] at z; cases z
    · rw [h2] at z; cases z
  rt := fun h => h.1
noncomputable def OwnP {α β : Type} (i : Rep α) (j : Rep β) (xs : List α) (ys : List β) : Own → Prop := fun o => ∃ a l m, o = ownP i j a l m xs ys
theorem ex_pairN {x1} {xs : List α} {ys : List β} (ha : EN X Γ a xs) (hb : EN X Γ b ys) (hs : autoParam (starEach [a, b] X.env = (false, eval a X.env) :: starEach [b] X.env) aStar) (hs2 : autoParam (starEach [b] X.env = (false, eval b X.env) :: starEach [] X.env) aStar) : EX X Γ (.Tuple [a, b] x1 pos) (fun r => r = .own (OwnP i j xs ys)) := fun B F H σ Q L q =>
  WE.of (pe_tup (pa_cons peW (pa_cons peW pa_nil hs2) hs)) (ha B F H σ _ L fun a1 vs F1 H1 e1 n1 f1 h1 p1 => hb B F1 H1 σ _ (L.step e1) fun a2 ws F2 H2 e2 n2 f2 h2 p2 => ⟨by show 2 ≤ sizeLine; decide, fun p hp => by
    have e12 := e1.trans e2
    have s2 := (L.step e12).same
    have h1' := e2.hs _ _ h1
    have g1 : F2 a1 = none := e2.nw a1 f1 (by rw [h1]; exact fun z => nomatch z)
    have ne1 : p ≠ a1 := fun z => by rw [z, h1'] at hp; cases hp
    have ne2 : p ≠ a2 := fun z => by rw [z, h2] at hp; cases hp
    have ne3 : a1 ≠ a2 := fun z => by rw [z] at h1; rw [n2] at h1; cases h1
    have e3 := e12.trans (Ext.apart (o := .tup [.ref a1, .ref a2]) s2 hp)
    refine q _ (.ref p) F2 _ rfl e3 ⟨ownP i j p a1 a2 xs ys, ⟨p, a1, a2, rfl⟩, fun b hb => ?_, rfl, ⟨ne1, ne2, ne3⟩, upd_same, ⟨vs, by rw [upd_ne (Ne.symm ne1)]; exact h1', Paired.mapP p1 fun _ _ z => i.mono e2.ff z⟩, ws, by rw [upd_ne (Ne.symm ne2)]; exact h2, p2⟩
    have hb' : b = p ∨ b = a1 ∨ b = a2 := by
      have : b ∈ [p, a1, a2] := hb
      simpa using this
    rcases hb' with rfl | rfl | rfl
    · exact ⟨e12.hs.free hp, s2.free hp⟩
    · exact ⟨n1, g1⟩
    · exact ⟨e1.hs.free n2, f2⟩⟩)
theorem MA_cons {s : Slot} {A : List Slot} {b : Addr} (h : MA (s :: A) b) : (∃ o, s = .own o ∧ b ∈ o.fp) ∨ MA A b := by
  obtain ⟨o, h1, h2⟩ := h
  rcases List.mem_cons.mp h1 with z | z
  · exact .inl ⟨o, z.symm, h2⟩
  · exact .inr ⟨o, z, h2⟩
theorem Apart.tail {s : Slot} {A : List Slot} (h : Apart A) (hs : ∀ o, s = .own o → ∀ b ∈ o.fp, ¬ MA A b) : Apart (s :: A) := fun x y o1 o2 hxy h1 h2 b hb1 hb2 => by
  cases x with
  | zero =>
    cases y with
    | zero => exact hxy rfl
    | succ y => exact hs o1 (Option.some.inj h1) b hb1 ⟨o2, List.mem_of_getElem? (by simpa using h2), hb2⟩
  | succ x =>
    cases y with
    | zero => exact hs o2 (Option.some.inj h2) b hb2 ⟨o1, List.mem_of_getElem? (by simpa using h1), hb1⟩
    | succ y => exact h x y o1 o2 (fun z => hxy (by rw [z])) (by simpa using h1) (by simpa using h2) b hb1 hb2
theorem st_setO (k : Nat) {n : Str} {P0 : Own → Prop} (he : EX X Γ e (fun r => r = .own P0)) (hr : ∀ o, P0 o → ST X rest (Γ.set k (.own o)) E) (hN : X.N.Nodup) (hi : autoParam (X.N[k]? = some n) aRfl) (hx : autoParam (L2.Loc X.env.scope n) aLoc)
    (hs : autoParam (swapsWith e (some (.Name n p)) pos.line X.env = pure false) aRfl) (hf : autoParam (X.fn n = true ∨ X.env.scope.names.lookup n = some .local) Tw.aFn) : ST X (.Assign [.Name n p] e pos :: rest) Γ E := fun B F H σ D L ed =>
  WP.cons (ps_set hN hi hx peW hs hf) (he B F H σ _ L fun r v F1 H1 er e1 r1 => by
    subst er
    obtain ⟨o, hP0, f, ok1⟩ := r1
    exact hr o hP0 B F1 H1 _ D (L.putO k e1 f ok1) (ed.weak e1.ff))
end
end Tw
namespace Tw
open PySem PySem.Spec PyProof.Rows L2 TL
noncomputable def clsBody : Stmt → Nat → Stmt
  | .ClassDef _ _ _ body _ _ _ _ _ _ _, j => body.getD j (.Pass ⟨0, 0, 0, 0⟩)
  | st, _ => st
structure XBase (K : PySem.W.Frag) (mg : Str → Option Value) (n : Str) (D : Addr) : Prop where
  g : mg n = some (.ref D)
  sp : PySem.W.specialIn K (.ref D) "__getattribute__" = some (some (.builtin "type.__getattribute__"))
  rd : PySem.W.readsIn K D (.type "type") = true
  fc : PySem.W.findCls K (.ref D) (.type "type") "__init__" = some (.val (.builtin "ValueError.__init__"))
theorem pe_qinit {X : Cx} {n : Str} {D : Addr} {e : Expr} {es : List Expr} {ta : TA} {p1 p2 pos : Pos} {pl : Sem Bool} (T : XBase X.K X.mg n D) (ha : PA X (e :: es) ta) (hg : autoParam (Gl X n) aRfl) (hd : autoParam ((n == ("__debug__" : Str)) = false) aDec)
    (hc : autoParam (eval (.Call (.Attribute (.Name n p1) "__init__" p2) (e :: es) [] pos) X.env = (do
      let ov ← eval (.Name n p1) X.env
      standAt p2.atName
      let (f, first) ← holding [ov] (getMethod ov "__init__" pl)
      callWith pos f first (backTo pos (starEach (e :: es) X.env)) (backToKw pos (keywordEach [] X.env)))) aRfl)
    (he : autoParam (starEach (e :: es) X.env = (false, eval e X.env) :: starEach es X.env) aStar) (hpl : autoParam ((backTo pos (starEach es X.env)).any (·.1) = false) aPl) :
    PE X (.Call (.Attribute (.Name n p1) "__init__" p2) (e :: es) [] pos) (tVeI X.K ta) := by
  refine ⟨fun pins s σ H Q I h => ?_⟩
  refine PySem.W.methodCall_KW (ld_glob I hg T.g ?_ hd) hc
  refine PySem.W.method_cls I.kIn T.sp (PySem.W.cls_value I.kIn T.rd T.fc (by decide +kernel) ?_)
  show wpAny _ _ (callWith pos (Value.builtin "ValueError.__init__") [] (backTo pos (starEach (e :: es) X.env)) []) _ _ _
  refine PyProof.Rows.callWith_method1 (thn (ha.run pos pins _ σ H _ (I.tok _) h) fun us s1 ⟨vs, H1, I1, r1, a, C, ws, ev, hl, T, ea, q⟩ => ?_) he hpl
  subst ev
  cases r1 with
  | @cons _ u0 _ ur ra rw' =>
    obtain rfl : u0 = Value.ref a := ra
    have hlen : ur.length ≤ sizeLine := by
      rw [← Paired.length rw', sizeLine_eq]
      omega
    exact oinit_ok T I1 ea hlen fun s' J => ⟨.non, H1, J, rfl, q⟩
structure Dx (K : PySem.W.Frag) (n fld qual : Str) (st : Stmt) (ps : List Str) : Prop where
  ex : ∃ C fI fd, PySem.W.nsIn K mainGlobals n = some (some (.ref C)) ∧ OexC K C ∧ PySem.W.findIn K (.ref C) fld = some none ∧ PySem.W.findIn K (.ref C) "__init__" = some (some (.ref fI)) ∧ PySem.W.typeIn K (.ref fI) = some (.type "function") ∧ Fun K "__init__" qual st fI fd ∧ Binds K fd ps []
theorem Dx.fld {K : PySem.W.Frag} {n fld qual : Str} {st : Stmt} {ps : List Str} (D : Dx K n fld qual st ps) : XFld K n fld := fun C h => by
  obtain ⟨C', fI, fd, hC, _, hno, _⟩ := D.ex
  obtain rfl := ns_one hC h
  exact hno
section
variable {P : Program} {w : World} {K : PySem.W.Frag} {mg : Str → Option Value} {base : Heap}
theorem XInit.of {n fld qual : Str} {st : Stmt} {N : List Str} {x y : Str} (D : Dx K n fld qual st [x, y]) (sc : FnScope N [x, y] (defScope st)) (hN : N.length = 2)
    (body : ∀ (C fI : Addr) (T : OexC K C) (hno : PySem.W.findIn K (.ref C) fld = some none) (cdv : Value) (A : Around) (outer : List Env) (s : Shared) (H : Hp) (E : XK) (a : Addr) (v : V) (Q : VK), H a = some (exo a C none) →
      (∀ dx, H dx = none → dx ≠ a → Q .non (upd (upd H dx (exd dx [(fld, v)])) a (exo a C (some dx)))) → WP (cxOf (L2.CX P w) P w K mg base N qual (defScope st) fI cdv A outer s H E) (defBody st) { nx := fun _ H' => Q .non H', rt := Q } [some (.ref a), some v] H) :
    XInit P w K mg base 1 n fld := by
  obtain ⟨C, fI, fd, hC, T, hno, iC, tI, F, hb⟩ := D.ex
  refine ⟨fun C' hC' => ?_⟩
  obtain rfl := ns_one hC hC'
  refine ⟨T, fI, fd, [x, y], iC, tI, hb, F.okX sc (fun vs H Q E ⟨a, v, e, _⟩ => by rw [e]; rfl) (fun cdv A outer s H vs Q E hr h => ?_)⟩
  obtain ⟨a, v, rfl, ha, hq⟩ := h
  refine ⟨_, psW, ?_⟩
  have e1 : L2.start N [V.ref a, v] = [some (.ref a), some v] := by
    unfold L2.start
    rw [hN]
    rfl
  rw [e1]
  exact body C' fI T hno cdv A outer s H E a v Q ha hq
end
section
variable {X : Cx} {Γ : List Slot} {α β γ : Type} {i : Rep α} {j : Rep β} {l : Rep γ} {pos p p2 : Pos} {e a b c elt tg it : Expr} {es : List Expr} {E : SE} {rest body : List Stmt}
theorem o_inS {c : Nat} {z : Tx} : OB X (compareOp .In) ([c] : Tx) z (decide (c ∈ z)) := ob_flat op_in_sign fun F H v u Q s r1 r2 q => ⟨c, sx z, r1, r2, q _ rfl⟩
theorem o_notInS {c : Nat} {z : Tx} : OB X (compareOp .NotIn) ([c] : Tx) z (!decide (c ∈ z)) := ob_flat op_notIn_sign fun F H v u Q s r1 r2 q => ⟨c, sx z, r1, r2, q _ rfl⟩
theorem Lc.freeze {K : PySem.W.Frag} {B : Bs} {F H : Hp} {σ : L2.St} {k : Nat} {o : Own} {x : α} (L : Lc K B F H σ Γ) (hk : Γ[k]? = some (.own o)) (hx : Froz o x) : Lc K B (frz F H o.fp) H σ (Γ.set k (.val i x)) ∧ Same F (frz F H o.fp) := by
  obtain ⟨v, ev, ok, f⟩ := slot_own L hk
  have f0 : ∀ b ∈ o.fp, F b = none := fun b hb => (f b hb).1
  refine ⟨⟨⟨L.ext.ff.trans (frz_le f0), frz_same L.same, L.ext.hh, fun a hm h1 h2 => ?_, L.ext.th⟩, by simp [L.len], fun q t hq => ?_, L.ap.put k rfl⟩, frz_le f0⟩
  · have na : a ∉ o.fp := fun hb => (f a hb).2.elim (fun z => h2 z) hm
    rw [frz_out na]
    exact L.ext.nwM a hm h1 h2
  · rcases get_set_slot hq with ⟨e1, e2, rfl⟩ | ⟨e1, hq'⟩
    · subst e1
      rw [ev]
      exact ⟨v, rfl, hx L.same ok f0⟩
    · have old := L.ok q t hq'
      cases t with
      | no => trivial
      | val i x => obtain ⟨v, e2, r⟩ := old; exact ⟨v, e2, i.mono (frz_le f0) r⟩
      | own o2 =>
        obtain ⟨u, eu, ok2, f2⟩ := old
        exact ⟨u, eu, o2.stay (frz_le f0) (fun _ _ _ h => h) ok2, fun b hb => ⟨by rw [frz_out (fun hb2 => L.ap k q o o2 e1 hk hq' b hb2 hb)]; exact (f2 b hb).1, (f2 b hb).2⟩⟩
theorem st_freeze (k : Nat) {o : Own} {x : α} {sts : List Stmt} (hx : Froz o x) (h : ST X sts (Γ.set k (.val i x)) E) (hk : autoParam (Γ[k]? = some (.own o)) aRfl) : ST X sts Γ E := fun B F H σ D L ed => by
  obtain ⟨L', s⟩ := L.freeze hk hx
  exact h B _ H σ D L' (ed.weak s)
theorem st_setEx (k : Nat) {n : Str} {G : α → Prop} (he : EX X Γ e (fun r => ∃ x, G x ∧ r = .val i x)) (hr : ∀ x, G x → ST X rest (Γ.set k (.val i x)) E) (hN : X.N.Nodup) (hi : autoParam (X.N[k]? = some n) aRfl) (hx : autoParam (L2.Loc X.env.scope n) aLoc)
    (hs : autoParam (swapsWith e (some (.Name n p)) pos.line X.env = pure false) aRfl) (hf : autoParam (X.fn n = true ∨ X.env.scope.names.lookup n = some .local) Tw.aFn) : ST X (.Assign [.Name n p] e pos :: rest) Γ E := fun B F H σ D L ed =>
  WP.cons (ps_set hN hi hx peW hs hf) (he B F H σ _ L fun r v F1 H1 er e1 r1 => by
    obtain ⟨x, hG, rfl⟩ := er
    exact hr x hG B F1 H1 _ D ((L.step e1).putV k r1) (ed.weak e1.ff))
end
set_option genInjectivity true in
structure Why where
  w : Tx
  ns : List Int
  deriving DecidableEq
noncomputable instance repWhy : Rep Why := ⟨fun _ H v x => ∃ a, v = .ref a ∧ H a = some (.tup (.str (sx x.w) :: x.ns.map V.int)), fun s ⟨a, e, h⟩ => ⟨a, e, s _ _ h⟩⟩
theorem dpInts {K : PySem.W.Frag} {F : Hp} : ∀ ns : List Int, DpAll K F (ns.map V.int) (ns.map PyData.int)
  | [] => .nil
  | n :: ns => .cons (.int n) (dpInts ns)
theorem layInts : ∀ ns : List Int, PyData.canLayAll0 (ns.map PyData.int) = true
  | [] => by rw [List.map_nil, PyData.canLayAll0]
  | n :: ns => by rw [List.map_cons, PyData.canLayAll0, PyData.canLay0, layInts ns]; rfl
theorem depInts : ∀ ns : List Int, PyData.depthAll (ns.map PyData.int) = 0
  | [] => by rw [List.map_nil, PyData.depthAll]
  | n :: ns => by rw [List.map_cons, PyData.depthAll, depInts ns]; simp [PyData.depth]
noncomputable abbrev instDatTx : Dat (List Nat) := inferInstance
noncomputable instance : Dat Why := ⟨fun x => .tuple (.str (sx x.w) :: x.ns.map PyData.int), fun x => TxOk x.w, 1, fun {K F v x} ⟨a, e, h⟩ => by subst e; exact .tup (.inl (.inl h)) (.cons (.str _) (dpInts _)),
  fun {x} h => by
    rw [PyData.canLay0, PyData.canLayAll0, layInts]
    have := (instDatTx).lay (x := x.w) h
    show (PyData.canLay0 (.str (sx x.w)) && true) = true
    rw [show PyData.canLay0 (.str (sx x.w)) = true from this]; rfl,
  fun x => by rw [PyData.depth, PyData.depthAll, depInts]; simp [PyData.depth], fun x y => by
    rw [PyData.eqv, PyData.eqvAll]
    have h1 := (instDatTx).eqv x.w y.w
    have h2 := eqvAll (α := Int) x.ns y.ns
    rw [show PyData.eqv (.str (sx x.w)) (.str (sx y.w)) = decide (x.w = y.w) from h1, show PyData.eqvAll (x.ns.map PyData.int) (y.ns.map PyData.int) = decide (x.ns = y.ns) from h2, ← Bool.decide_and]
    exact decide_eq_decide.mpr (by cases x; cases y; simp)⟩
noncomputable instance : Ty Why := ⟨"tuple", fun {_ _ _ v x} s h => by obtain ⟨a, rfl, h⟩ := h; exact .base (.tup (s _ _ h))⟩
noncomputable instance : NonN Why := ⟨fun h z => by obtain ⟨a, rfl, _⟩ := h; cases z⟩
section
variable {X : Cx} {Γ : List Slot} {pos p p2 : Pos} {a : Expr} {es : List Expr}
theorem ev_why {x1} {w : Tx} {ns : List Int} (ha : EV X Γ a w) (hs : EAs X Γ es ns) (hz : ns.length ≤ 999 := by simp) (hst : autoParam (starEach (a :: es) X.env = (false, eval a X.env) :: starEach es X.env) aStar) : EV X Γ (.Tuple (a :: es) x1 pos) (Why.mk w ns) := fun B F H σ Q L q =>
  WE.of (pe_tup (pa_cons peW paW hst)) (ha B F H σ _ L fun v F1 H1 e1 r1 => hs B F1 H1 σ _ (L.step e1) fun vs F2 H2 e2 r2 => ⟨by rw [List.length_cons, Paired.length r2]; exact sl_small (by omega), fun p hp => by
    have e12 := e1.trans e2
    have ea := Ext.new (o := .tup (v :: vs)) (L.step e12).same hp
    obtain rfl : v = .str (sx w) := r1
    have hv := Rps.ints r2
    subst hv
    exact q (.ref p) _ _ (e12.trans ea) ⟨p, rfl, upd_same⟩⟩)
end
end Tw
namespace Tw
open PySem PySem.Spec PyProof.Rows L2 TL
section
variable {K : PySem.W.Frag} {B : Bs} {F H F' H' : Hp} {σ : L2.St} {Γ : List Slot} {M : Addr → Prop}
theorem Lc.after (L : Lc K B F H σ Γ) (e : ExtM M F H F' H') {k : Nat} {o : Own} (hg : Γ[k]? = some (.own o)) (hM : ∀ b, M b → b ∈ o.fp) : Lc K B F' H' σ (Γ.set k .no) := by
  obtain ⟨v, ev, ok, f⟩ := slot_own L hg
  have here : ∀ b u, ¬ B.M b → B.H b = some u → ¬ M b := fun b u nb q m => (f b (hM b m)).2.elim (fun z => by rw [z] at q; cases q) nb
  refine ⟨⟨L.ext.ff.trans e.ff, e.fh, fun b u nb q => e.hh b u (here b u nb q) (L.ext.hh b u nb q), fun b nb h1 h2 => ?_, fun b hb h => ?_⟩, by simp [L.len], fun q t hq => ?_, L.ap.put k rfl⟩
  · cases q : B.H b with
    | none => exact absurd q h2
    | some u => exact e.nwM b (here b u nb q) (L.ext.nwM b nb h1 h2) (by rw [L.ext.hh b u nb q]; exact fun z => nomatch z)
  · have := L.ext.th b hb h
    by_cases m : M b
    · exact e.th b m this
    · cases q : H b with
      | none => exact absurd q this
      | some u => rw [e.hh b u m q]; exact fun z => nomatch z
  · rcases get_set_slot hq with ⟨_, _, rfl⟩ | ⟨e1, hq'⟩
    · trivial
    · have old := L.ok q t hq'
      cases t with
      | no => trivial
      | val i x => obtain ⟨v, e2, r⟩ := old; exact ⟨v, e2, i.mono e.ff r⟩
      | own o2 =>
        obtain ⟨u, eu, ok2, f2⟩ := old
        have nM : ∀ b ∈ o2.fp, ¬ M b := fun b hb m => L.ap k q o o2 e1 hg hq' b (hM b m) hb
        exact ⟨u, eu, o2.stay e.ff (fun b hb w z => e.hh b w (nM b hb) z) ok2, fun b hb => ⟨e.nwM b (nM b hb) (f2 b hb).1 (o2.there ok2 b hb), (f2 b hb).2⟩⟩
theorem Lc.back (L : Lc K B F H σ Γ) (e : ExtM M F H F' H') {k : Nat} {o o' : Own} (hg : Γ[k]? = some (.own o)) (hM : ∀ b, M b → b ∈ o.fp) (ok' : o'.ok K F' H' o'.root) (f' : ∀ b ∈ o'.fp, (H b = none ∨ M b) ∧ F' b = none) (hr : o'.root = o.root) : Lc K B F' H' σ (Γ.set k (.own o')) := by
  have L1 := L.after e hg hM
  obtain ⟨v, ev, ok, f⟩ := slot_own L hg
  have er : v = o.root := o.rt ok
  refine ⟨L1.ext, by simp [L.len], fun q t hq => ?_, L.ap.putO k fun j o2 hj h b hb => ?_⟩
  · rcases get_set_slot hq with ⟨e1, e2, rfl⟩ | ⟨e1, hq'⟩
    · subst e1
      rw [ev]
      refine ⟨v, rfl, by rw [er, ← hr]; exact ok', fun b hb => ⟨(f' b hb).2, ?_⟩⟩
      rcases (f' b hb).1 with z | m
      · exact L.nw z
      · exact (f b (hM b m)).2
    · exact L1.ok q t (by rw [List.getElem?_set_ne e1]; exact hq')
  · rcases (f' b hb).1 with z | m
    · exact L.ne_own z h
    · exact L.ap k j o o2 hj hg h b (hM b m)
end
noncomputable def EG (X : Cx) (Γ : List Slot) (e : Expr) (P : Ret → List Slot → Prop) (R : Exn → List Slot → Prop) : Prop :=
  ∀ B F H σ Q, Lc X.K B F H σ Γ → (∀ r v F' H' Γ', P r Γ' → Same F F' → Lc X.K B F' H' σ Γ' → ROk X.K (fun b => B.nw b ∧ Free Γ' b) F' H' v r → Q v H') →
    (∀ x u d F' H' Γ', R x Γ' → Same F F' → Lc X.K B F' H' σ Γ' → XOk X.K (fun b => B.nw b ∧ Free Γ' b) F' H' u d x → XW X u d σ H') → WE X e σ H Q
noncomputable def EAb (X : Cx) (Γ : List Slot) (es : List Expr) (A : List Slot) : Prop :=
  ∀ B F H σ Q, Lc X.K B F H σ Γ → (∀ vs F' H', Ext F H F' H' → VsOkO X.K F' H' vs A → Q vs H') → WA X es σ H Q
noncomputable def noOwn (A : List Slot) : Bool := A.all fun s => !s.isOwn
theorem noOwn_no {A : List Slot} (h : noOwn A = true) (o : Own) : Slot.own o ∉ A := fun m => by
  have := (List.all_eq_true.mp h) _ m
  cases this
theorem noOwn_ma {A : List Slot} (h : noOwn A = true) {b : Addr} (m : MA A b) : False := by
  obtain ⟨o, h1, _⟩ := m
  exact noOwn_no h o h1
theorem apart_one {o : Own} {A : List Slot} (h : noOwn A = true) : Apart (.own o :: A) := Apart.tail (fun i j o1 o2 _ h1 _ => absurd (List.mem_of_getElem? h1) (noOwn_no h o1)) fun _ _ _ _ m => noOwn_ma h m
theorem ma_one {o : Own} {A : List Slot} (h : noOwn A = true) {b : Addr} (m : MA (.own o :: A) b) : b ∈ o.fp := by
  rcases MA_cons m with ⟨o', z, hb⟩ | m
  · cases z; exact hb
  · exact (noOwn_ma h m).elim
section
variable {X : Cx} {Γ : List Slot} {α β γ : Type} {i : Rep α} {j : Rep β} {pos p p2 : Pos} {e a b c : Expr} {es : List Expr} {E : SE} {rest body : List Stmt}
theorem eab_nil : EAb X Γ [] [] := fun B F H σ Q L q => WA.of pa_nil (q [] F H (Ext.refl L.same) trivial)
theorem VsOkO.step {F H F' H' : Hp} (e : Ext F H F' H') : ∀ {vs : List V} {A : List Slot}, VsOkO X.K F H vs A → VsOkO X.K F' H' vs A
  | [], [], _ => trivial
  | v :: vs, .val i x :: A, h => ⟨i.mono e.ff h.1, VsOkO.step e h.2⟩
  | v :: vs, .own o :: A, h => ⟨o.stay e.ff (fun b _ u q => e.hs _ _ q) h.1, fun b hb => e.nw b (h.2.1 b hb) (o.there h.1 b hb), VsOkO.step e h.2.2⟩
  | [], _ :: _, h => h.elim
  | _ :: _, [], h => h.elim
  | _ :: _, .no :: _, h => h.elim
theorem eab_v {x : α} {A : List Slot} (h : EV X Γ e x) (hr : EAb X Γ es A) (hs : autoParam (starEach (e :: es) X.env = (false, eval e X.env) :: starEach es X.env) aStar) : EAb X Γ (e :: es) (.val i x :: A) := fun B F H σ Q L q =>
  WA.of (pa_cons peW paW hs) (h B F H σ _ L fun v F1 H1 e1 r1 => hr B F1 H1 σ _ (L.step e1) fun vs F2 H2 e2 ok => q (v :: vs) F2 H2 (e1.trans e2) ⟨i.mono e2.ff r1, ok⟩)
theorem eab_o (k : Nat) {n : Str} {o : Own} {A : List Slot} (hr : EAb X Γ es A) (hg : autoParam (Γ[k]? = some (.own o)) aRfl) (hN : autoParam (X.N[k]? = some n) aRfl) (hv : autoParam (Vis X.env.scope n) aVis) (hd : autoParam ((n == ("__debug__" : Str)) = false) aDec)
    (hcd : autoParam ((n == ("__classdict__" : Str)) = false) aDec) (hs : autoParam (starEach (.Name n p :: es) X.env = (false, eval (.Name n p) X.env) :: starEach es X.env) aStar) : EAb X Γ (.Name n p :: es) (.own o :: A) := fun B F H σ Q L q => by
  obtain ⟨v, ev, ok, f⟩ := slot_own L hg
  refine WA.of (pa_cons (pe_var hN hv hd hcd) paW hs) ⟨v, ev, hr B F H σ _ L fun vs F2 H2 e2 ok2 => q (v :: vs) F2 H2 e2 ⟨o.stay e2.ff (fun b _ u z => e2.hs _ _ z) ok, fun b hb => e2.nw b (f b hb).1 (o.there ok b hb), ok2⟩⟩
theorem borrow_rets {k : Nat} {o : Own} {A : List Slot} {B : Bs} {F H F1 H1 : Hp} {σ : L2.St} {Q : VK} {P : Ret → List Slot → Prop} {G : α → Own → Prop} (hg : Γ[k]? = some (.own o)) (L : Lc X.K B F H σ Γ) (e1 : Ext F H F1 H1) (hma : ∀ b, MA A b → b ∈ o.fp)
    (hG : ∀ x o', G x o' → o'.root = o.root) (hP : ∀ x o', G x o' → P (.val i x) (Γ.set k (.own o')))
    (q : ∀ r v F' H' Γ', P r Γ' → Same F F' → Lc X.K B F' H' σ Γ' → ROk X.K (fun b => B.nw b ∧ Free Γ' b) F' H' v r → Q v H') {x : α} {o' : Own} (hx : G x o') :
    ∀ v F' H', ExtM (MA A) F1 H1 F' H' → ROk X.K (Bs.nw ⟨F1, H1, MA A⟩) F' H' v (.chg i x [o']) → Q v H' := fun v F2 H2 e2 ok => by
  obtain ⟨r, f, _⟩ := ok
  obtain ⟨ok', f'⟩ := f o' (List.mem_singleton.mpr rfl)
  exact q (.val i x) v F2 H2 (Γ.set k (.own o')) (hP x o' hx) (e1.ff.trans e2.ff) ((L.step e1).back e2 hg hma ok' (fun b hb => f' b hb) (hG x o' hx)) r
theorem borrow_exns {k : Nat} {o : Own} {A : List Slot} {B : Bs} {F H F1 H1 : Hp} {σ : L2.St} {R : Exn → List Slot → Prop} (hg : Γ[k]? = some (.own o)) (L : Lc X.K B F H σ Γ) (e1 : Ext F H F1 H1) (hma : ∀ b, MA A b → b ∈ o.fp)
    (z : ∀ x u d F' H' Γ', R x Γ' → Same F F' → Lc X.K B F' H' σ Γ' → XOk X.K (fun b => B.nw b ∧ Free Γ' b) F' H' u d x → XW X u d σ H') {x : Exn} (hx : R x (Γ.set k .no)) :
    ∀ u d F' H', ExtM (MA A) F1 H1 F' H' → XOk X.K (Bs.nw ⟨F1, H1, MA A⟩) F' H' u d x → XW X u d σ H' := fun u d F2 H2 e2 ok => by
  have L1 := L.step e1
  have L2 := L1.after e2 hg hma
  obtain ⟨_, _, _, fo⟩ := slot_own L1 hg
  refine z x u d F2 H2 (Γ.set k .no) hx (e1.ff.trans e2.ff) L2 (ok.imp fun b h => ⟨?_, fun q o2 hq => ?_⟩)
  · exact h.elim (fun w => L1.nw w) fun m => (fo b (hma b m)).2
  · rcases get_set_slot hq with ⟨_, _, w⟩ | ⟨ne, hq'⟩
    · cases w
    · exact h.elim (fun w => L1.ne_own w hq') fun m => L1.ap k q o o2 ne hg hq' b (hma b m)
theorem eg_call (k : Nat) {n : Str} {kk : Nat} {ps : List Str} {S : Spec} {o : Own} {A : List Slot} {P : Ret → List Slot → Prop} {R : Exn → List Slot → Prop} {G : α → Own → Prop} (GH : Has X.prog X.w X.K X.mg X.base kk n ps S) (hr : Room kk X.A) (ha : EAb X Γ (e :: es) (.own o :: A)) (hA : noOwn A = true) (hg : Γ[k]? = some (.own o))
    (hG : ∀ x o', G x o' → o'.root = o.root) (hP : ∀ x o', G x o' → P (.val i x) (Γ.set k (.own o'))) (hS : ∀ P' R', (∀ x o', G x o' → P' (.chg i x [o'])) → (∀ y, R y (Γ.set k .no) → R' y) → S (.own o :: A) P' R') (hgl : autoParam (Gl X n) aRfl) (hd : autoParam ((n == ("__debug__" : Str)) = false) aDec)
    (he : autoParam (starEach (e :: es) X.env = (false, eval e X.env) :: starEach es X.env) aStar) (hpl : autoParam ((backTo pos (starEach es X.env)).any (·.1) = false) aPl) : EG X Γ (.Call (.Name n p) (e :: es) [] pos) P R := fun B F H σ Q L q z => by
  obtain ⟨f, fd, hm, hk, hb, GF⟩ := GH.ex
  refine WE.of (pe_callS (E := fun σ cls d H => XW X cls d σ H) GF hr hgl hm hk hb (fun σ => passAt takesW σ) paW hd he hpl) (ha B F H σ _ L fun vs F1 H1 e1 r1 => ?_)
  exact ⟨F1, _, (L.step e1).same, r1, apart_one hA, hS _ _ (fun x o' hx => borrow_rets hg L e1 (fun b m => ma_one hA m) hG hP q hx) fun y hy => borrow_exns hg L e1 (fun b m => ma_one hA m) z hy⟩
theorem st_dropG {P : Ret → List Slot → Prop} {R : Exn → List Slot → Prop} (he : EG X Γ e P R) (hr : ∀ r Γ', P r Γ' → ST X rest Γ' E) (hR : ∀ x Γ', R x Γ' → E.ex Γ' x) (hs : autoParam (swapsWith e none pos.line X.env = pure false) aRfl) : ST X (.Expr e pos :: rest) Γ E := fun B F H σ D L ed =>
  WP.cons (ps_expr peW hs) (he B F H σ _ L (fun r v F1 H1 Γ1 hP s1 L1 _ => hr r Γ1 hP B F1 H1 σ D L1 (ed.weak s1)) fun x u d F1 H1 Γ1 hx s1 L1 ok => ed.ex F1 H1 σ Γ1 x u d s1 (hR x Γ1 hx) L1 ok)
end
noncomputable def SlotV (K : PySem.W.Frag) (F : Hp) (v : V) : Slot → Prop
  | .val i x => i.rp K F v x
  | _ => False
theorem SlotV.mono {K : PySem.W.Frag} {F F' : Hp} (s : Same F F') {v : V} {t : Slot} (h : SlotV K F v t) : SlotV K F' v t := by
  cases t with
  | val i x => exact i.mono s h
  | no => exact h.elim
  | own o => exact h.elim
noncomputable def FOk (K : PySem.W.Frag) (F : Hp) : List (Str × V) → List (Str × Slot) → Prop
  | [], [] => True
  | p :: fv, q :: fs => p.1 = q.1 ∧ SlotV K F p.2 q.2 ∧ FOk K F fv fs
  | _, _ => False
theorem FOk.mono {K : PySem.W.Frag} {F F' : Hp} (s : Same F F') : ∀ {fv : List (Str × V)} {fs : List (Str × Slot)}, FOk K F fv fs → FOk K F' fv fs
  | [], [], _ => trivial
  | p :: fv, q :: fs, h => ⟨h.1, h.2.1.mono s, FOk.mono s h.2.2⟩
  | [], _ :: _, h => h.elim
  | _ :: _, [], h => h.elim
theorem lookup_ne {A : Type u} {f g : Str} {x : A} {l : List (Str × A)} (h : ¬ f = g) : ((g, x) :: l).lookup f = l.lookup f := by
  have hne : (f == g) = false := by simpa using h
  simp [List.lookup, hne]
theorem lookup_eq {A : Type u} {f : Str} {x : A} {l : List (Str × A)} : ((f, x) :: l).lookup f = some x := by simp [List.lookup]
theorem FOk.get {K : PySem.W.Frag} {F : Hp} {f : Str} {s : Slot} : ∀ {fv : List (Str × V)} {fs : List (Str × Slot)}, FOk K F fv fs → fs.lookup f = some s → ∃ v, fv.lookup f = some v ∧ SlotV K F v s
  | [], [], _, h => by cases h
  | [], _ :: _, h, _ => h.elim
  | _ :: _, [], h, _ => h.elim
  | (g, v) :: fv, (g', t) :: fs, ⟨e, r, tl⟩, h => by
    have e : g = g' := e
    subst e
    by_cases hf : f = g
    · subst hf
      rw [lookup_eq] at h ⊢
      cases h
      exact ⟨v, rfl, r⟩
    · rw [lookup_ne hf] at h ⊢
      exact FOk.get tl h
theorem FOk.no {K : PySem.W.Frag} {F : Hp} {f : Str} : ∀ {fv : List (Str × V)} {fs : List (Str × Slot)}, FOk K F fv fs → fs.lookup f = none → fv.lookup f = none
  | [], [], _, _ => rfl
  | [], _ :: _, h, _ => h.elim
  | _ :: _, [], h, _ => h.elim
  | (g, v) :: fv, (g', t) :: fs, ⟨e, r, tl⟩, h => by
    have e : g = g' := e
    subst e
    by_cases hf : f = g
    · subst hf
      rw [lookup_eq] at h
      cases h
    · rw [lookup_ne hf] at h ⊢
      exact FOk.no tl h
theorem FOk.len {K : PySem.W.Frag} {F : Hp} : ∀ {fv : List (Str × V)} {fs : List (Str × Slot)}, FOk K F fv fs → fv.length = fs.length
  | [], [], _ => rfl
  | _ :: _, _ :: _, h => by rw [List.length_cons, List.length_cons, FOk.len h.2.2]
  | [], _ :: _, h => h.elim
  | _ :: _, [], h => h.elim
theorem FOk.app {K : PySem.W.Frag} {F : Hp} {g : List (Str × V)} {g' : List (Str × Slot)} : ∀ {fv : List (Str × V)} {fs : List (Str × Slot)}, FOk K F fv fs → FOk K F g g' → FOk K F (fv ++ g) (fs ++ g')
  | [], [], _, h => h
  | _ :: _, _ :: _, h, h2 => ⟨h.1, h.2.1, FOk.app h.2.2 h2⟩
  | [], _ :: _, h, _ => h.elim
  | _ :: _, [], h, _ => h.elim
theorem putF_new {f : Str} {v : V} : ∀ {fv : List (Str × V)}, fv.lookup f = none → putF f v fv = fv ++ [(f, v)]
  | [], _ => rfl
  | (g, u) :: fv, h => by
    by_cases hf : f = g
    · subst hf; rw [lookup_eq] at h; cases h
    · rw [lookup_ne hf] at h
      show (if g = f then _ else _) = _
      rw [if_neg (Ne.symm hf), putF_new h]
      rfl
theorem FOk.put {K : PySem.W.Frag} {F : Hp} {f : Str} {v : V} {s : Slot} {fv : List (Str × V)} {fs : List (Str × Slot)} (h : FOk K F fv fs) (hn : fs.lookup f = none) (r : SlotV K F v s) : FOk K F (putF f v fv) (fs ++ [(f, s)]) := by
  rw [putF_new (h.no hn)]
  exact h.app ⟨rfl, r, trivial⟩
noncomputable def ownI (C a dx : Addr) (fs : List (Str × Slot)) : Own where
  fp := [a, dx]
  root := .ref a
  ok := fun K F H v => v = .ref a ∧ a ≠ dx ∧ H dx = some (.own a) ∧ ∃ fv, H a = some (.ins C dx fv) ∧ FOk K F fv fs
  stay := fun s k ⟨e, n, h1, fv, h2, r⟩ => ⟨e, n, k dx (by simp) _ h1, fv, k a (by simp) _ h2, r.mono s⟩
  there := fun ⟨_, _, h1, fv, h2, _⟩ b hb z => by
    have hb' : b = a ∨ b = dx := by simpa using hb
    rcases hb' with rfl | rfl
    · rw [h2] at z; cases z
    · rw [h1] at z; cases z
  rt := fun h => h.1
class Inst (α : Type) where
  cls : α → Str
  flds : α → List (Str × Slot)
noncomputable instance (priority := low) repInst {α : Type} [t : Inst α] : Rep α := ⟨fun K F v x => ∃ a C dx fv, v = .ref a ∧ PySem.W.nsIn K mainGlobals (t.cls x) = some (some (.ref C)) ∧ F a = some (.ins C dx fv) ∧ F dx = some (.own a) ∧ FOk K F fv (t.flds x),
  fun s ⟨a, C, dx, fv, e, n, h1, h2, r⟩ => ⟨a, C, dx, fv, e, n, s _ _ h1, s _ _ h2, r.mono s⟩⟩
theorem frozI {α : Type} [t : Inst α] {C a dx : Addr} {x : α} {K0 : PySem.W.Frag} (hC : ∀ K : PySem.W.Frag, K = K0 → PySem.W.nsIn K mainGlobals (t.cls x) = some (some (.ref C))) {F H : Hp} {v : V} (s : Same F H) (ok : (ownI C a dx (t.flds x)).ok K0 F H v) (f : ∀ b ∈ [a, dx], F b = none) : repInst.rp K0 (frz F H [a, dx]) v x := by
  obtain ⟨e, n, h1, fv, h2, r⟩ := ok
  exact ⟨a, C, dx, fv, e, hC K0 rfl, (frz_in (by simp)).trans h2, (frz_in (by simp)).trans h1, r.mono (frz_le f)⟩
end Tw
namespace Tw
open PySem PySem.Spec PyProof.Rows L2 TL
structure KCls (K : PySem.W.Frag) (n : Str) (C : Addr) : Prop where
  ns : PySem.W.nsIn K mainGlobals n = some (some (.ref C))
  cl : Cls K C
  mks : PySem.W.makesIn K C = true
  kp : PySem.W.keepIn K (.ref C) = true
  ty : PySem.W.typeIn K (.ref C) = some (.type "type")
  ha : PySem.W.findIn K (.ref C) "__class__" = some (some (.builtin "object.__class__"))
  hn : PySem.W.specialIn K (.builtin "object.__class__") "__get__" = some (some (.builtin "getset_descriptor.__get__"))
  ht : PySem.W.takesIn K (.builtin "object.__class__") = some true
  hm : PySem.W.mroIn K C (.type "object") = some true
noncomputable def OC (K : PySem.W.Frag) (mg : Str → Option Value) (n : Str) : Prop := ∃ C, KCls K n C ∧ mg n = some (.ref C)
noncomputable def NoA (K : PySem.W.Frag) (n f : Str) : Prop := ∀ C, PySem.W.nsIn K mainGlobals n = some (some (.ref C)) → NoAttr K C f
noncomputable def OSub (K : PySem.W.Frag) (n m : Str) (b : Bool) : Prop := ∀ C D, PySem.W.nsIn K mainGlobals n = some (some (.ref C)) → PySem.W.nsIn K mainGlobals m = some (some (.ref D)) → PySem.W.kitOne K (.ref C) (.ref D) = some b
theorem OSub.mk {K : PySem.W.Frag} {n m : Str} {b : Bool} {C D : Addr} (a1 : PySem.W.nsIn K mainGlobals n = some (some (.ref C))) (a2 : PySem.W.nsIn K mainGlobals m = some (some (.ref D))) (ht : PySem.W.typeIn K (.ref D) = some (.type "type")) (hd : PySem.W.hasDictIn K D = true)
    (h : PySem.W.subIn K (.ref C) (.ref D) = some b) (hb : C = D → b = true) : OSub K n m b := fun C' D' e1 e2 => by
  obtain rfl := ns_one a1 e1
  obtain rfl := ns_one a2 e2
  exact kitOf ht hd h fun e => hb (Value.ref.inj e)
structure Dm (K : PySem.W.Frag) (n m qual : Str) (st : Stmt) (ps : List Str) : Prop where
  ex : ∃ C f fd, PySem.W.nsIn K mainGlobals n = some (some (.ref C)) ∧ Meth K C m f ∧ Fun K m qual st f fd ∧ Binds K fd ps []
structure HasM (P : Program) (w : World) (K : PySem.W.Frag) (mg : Str → Option Value) (base : Heap) (k : Nat) (n m : Str) (ps : List Str) (S : Spec) : Prop where
  ex : ∀ C, PySem.W.nsIn K mainGlobals n = some (some (.ref C)) → ∃ f fd, Meth K C m f ∧ Binds K fd ps [] ∧ FnOk P w K mg base (L2.CX P w) k f fd ps (spOf K S)
noncomputable abbrev finI (o : Own) (Q : Ret → Prop) (R : Exn → Prop) : SE := ⟨fun Γ => ∃ o', Γ[0]? = some (.own o') ∧ o'.root = o.root ∧ Q (.chg repUnit () [o']), Q, fun _ => False, fun _ => False, fun _ => R⟩
section
variable {P : Program} {w : World} {K : PySem.W.Frag} {mg : Str → Option Value} {base : Heap}
theorem HasM.of {n m qual : Str} {st : Stmt} {N ps : List Str} {k : Nat} {S : Spec} (D : Dm K n m qual st ps) (sc : FnScope N ps (defScope st)) (len : ∀ A Q R, S A Q R → A.length = ps.length)
    (body : ∀ (f : Addr) (cdv : Value) (A : Around) (outer : List Env) (s : Shared) (H : Hp) (E : XK), Room k (A.deeper (envOfC qual (defScope st) s.heap.objs.size f cdv)) → ∀ Γ Q R, S Γ Q R →
      ST (cxOf (L2.CX P w) P w K mg base N qual (defScope st) f cdv A outer s H E) (defBody st) (Γ ++ List.replicate (N.length - ps.length) .no) (finX Q R)) :
    HasM P w K mg base (k + 1) n m ps S := by
  obtain ⟨C0, f, fd, hC0, hM, F, hb⟩ := D.ex
  refine ⟨fun C hC => ⟨f, fd, by obtain rfl := ns_one hC0 hC; exact hM, hb, F.okX sc (fun vs H Q E ⟨F0, A, s, r, ap, h⟩ => ?_) (fun cdv A outer s H vs Q E hr h => ?_)⟩⟩
  · rw [r.len]; exact len _ _ _ h
  · obtain ⟨F0, A0, sm, r, ap, h⟩ := h
    refine ⟨_, psW, ?_⟩
    have hl := len _ _ _ h
    have L0 := lc_start (K := K) sm r ap (N.length - ps.length)
    have L1 : Lc K ⟨F0, H, MA A0⟩ F0 H (L2.start N vs) (A0 ++ List.replicate (N.length - ps.length) .no) := by
      unfold L2.start
      rw [show vs.length = ps.length from r.len.trans hl]
      exact L0
    refine body f cdv A outer s H E hr A0 _ _ h ⟨F0, H, MA A0⟩ F0 H _ _ L1 ⟨fun F' H' σ' Γ' _ hq L => ?_, fun r v F' H' hq ex ok => hq v F' H' ex ok, fun _ _ _ _ _ z => z.elim, fun _ _ _ _ _ z => z.elim, fun F1 H1 σ' Γ' x u d _ hq L ok => ?_⟩
    · exact hq .non F' H' L.ext rfl
    · exact XW.of (L2.takes_of rfl rfl rfl rfl) (hq u d F1 H1 L.ext (ok.imp fun b h => h.1))
theorem HasM.ofI {n m qual : Str} {st : Stmt} {N ps : List Str} {k : Nat} {S : Spec} (D : Dm K n m qual st ps) (sc : FnScope N ps (defScope st)) (len : ∀ A Q R, S A Q R → A.length = ps.length)
    (body : ∀ (f : Addr) (cdv : Value) (A : Around) (outer : List Env) (s : Shared) (H : Hp) (E : XK), Room k (A.deeper (envOfC qual (defScope st) s.heap.objs.size f cdv)) → ∀ Γ Q R, S Γ Q R →
      ∃ o, ST (cxOf (L2.CX P w) P w K mg base N qual (defScope st) f cdv A outer s H E) (defBody st) (Γ ++ List.replicate (N.length - ps.length) .no) (finI o Q R)) :
    HasM P w K mg base (k + 1) n m ps S := by
  obtain ⟨C0, f, fd, hC0, hM, F, hb⟩ := D.ex
  refine ⟨fun C hC => ⟨f, fd, by obtain rfl := ns_one hC0 hC; exact hM, hb, F.okX sc (fun vs H Q E ⟨F0, A, s, r, ap, h⟩ => ?_) (fun cdv A outer s H vs Q E hr h => ?_)⟩⟩
  · rw [r.len]; exact len _ _ _ h
  · obtain ⟨F0, A0, sm, r, ap, h⟩ := h
    refine ⟨_, psW, ?_⟩
    have hl := len _ _ _ h
    have L0 := lc_start (K := K) sm r ap (N.length - ps.length)
    have L1 : Lc K ⟨F0, H, MA A0⟩ F0 H (L2.start N vs) (A0 ++ List.replicate (N.length - ps.length) .no) := by
      unfold L2.start
      rw [show vs.length = ps.length from r.len.trans hl]
      exact L0
    obtain ⟨o, hbody⟩ := body f cdv A outer s H E hr A0 _ _ h
    refine hbody ⟨F0, H, MA A0⟩ F0 H _ _ L1 ⟨fun F' H' σ' Γ' _ hq L => ?_, fun r v F' H' hq ex ok => hq v F' H' ex ok, fun _ _ _ _ _ z => z.elim, fun _ _ _ _ _ z => z.elim, fun F1 H1 σ' Γ' x u d _ hq L ok => ?_⟩
    · obtain ⟨o', hg, hr', hq⟩ := hq
      obtain ⟨v, ev, ok', f'⟩ := slot_own L hg
      refine hq .non F' H' L.ext ⟨rfl, fun o2 h2 => ?_, List.pairwise_singleton _ _⟩
      rw [List.mem_singleton.mp h2]
      exact ⟨by rw [← o'.rt ok']; exact ok', fun b hb => ⟨(f' b hb).2, (f' b hb).1⟩⟩
    · exact XW.of (L2.takes_of rfl rfl rfl rfl) (hq u d F1 H1 L.ext (ok.imp fun b h => h.1))
end
section
variable {X : Cx} {Γ : List Slot} {α β γ : Type} {i : Rep α} {j : Rep β} {pos p p2 : Pos} {e a b c : Expr} {es : List Expr} {E : SE} {rest body : List Stmt}
theorem st_setF (k : Nat) {n f : Str} {C ad dx : Addr} {fs : List (Str × Slot)} {x : α} {p' : Pos} (he : EV X Γ e x) (hr : ST X rest (Γ.set k (.own (ownI C ad dx (fs ++ [(f, .val i x)])))) E) (hc : Cls X.K C) (hn : NoAttr X.K C f) (hnew : fs.lookup f = none) (hz : fs.length < 1000 := by simp)
    (hg : autoParam (Γ[k]? = some (.own (ownI C ad dx fs))) aRfl) (hN : autoParam (X.N[k]? = some n) aRfl) (hv : autoParam (Vis X.env.scope n) aVis) (hd : autoParam ((n == ("__debug__" : Str)) = false) aDec) (hcd : autoParam ((n == ("__classdict__" : Str)) = false) aDec)
    (hs : autoParam (swapsWith e (some (.Attribute (.Name n p) f p')) pos.line X.env = pure false) aRfl) : ST X (.Assign [.Attribute (.Name n p) f p'] e pos :: rest) Γ E := fun B F H σ D L ed => by
  obtain ⟨v, ev, ok, _⟩ := slot_own L hg
  obtain ⟨rfl, _⟩ := ok
  refine WP.cons (ps_fld (pe_var hN hv hd hcd) peW hs) (he B F H σ _ L fun u F1 H1 e1 r1 => ⟨_, ev, ?_⟩)
  have L1 := L.step e1
  obtain ⟨v', ev', ⟨_, nn, h1, fv, h2, r⟩, f1⟩ := slot_own L1 hg
  refine ⟨ad, C, dx, fv, rfl, h2, hc, hn, by rw [r.len]; exact hz, ?_⟩
  refine hr B F1 _ σ D (L1.updO hg ev (fun b u hb q => ?_) (fun b hb => ?_) (fun b hb => .inl hb) ⟨rfl, nn, ?_, putF f u fv, upd_same, r.put hnew r1⟩) (ed.weak e1.ff)
  · rw [upd_ne (fun z => hb (by rw [z]; show ad ∈ [ad, dx]; simp))]; exact q
  · by_cases hba : b = ad
    · rw [hba, upd_same]; exact fun z => nomatch z
    · rw [upd_ne hba]
      have hb' : b = ad ∨ b = dx := by
        have : b ∈ [ad, dx] := hb
        simpa using this
      rcases hb' with rfl | rfl
      · exact absurd rfl hba
      · rw [h1]; exact fun z => nomatch z
  · rw [upd_ne (Ne.symm nn)]; exact h1
theorem ev_fld {α : Type} [t : Inst α] {x : α} {y : β} {n f : Str} (hc : OC X.K X.mg n) (hn : NoA X.K n f) (hx : t.cls x = n) (hf : (t.flds x).lookup f = some (.val j y)) (h : EV X Γ e x) (hb : autoParam (attributeBase e f X.env (eval e X.env) = eval e X.env) aRfl) : EV X Γ (.Attribute e f pos) y := fun B F H σ Q L q =>
  WE.of (pe_fld peW hb) (h B F H σ _ L fun v F1 H1 e1 r1 => by
    obtain ⟨C, kC, gC⟩ := hc
    obtain ⟨ad, C', dx, fv, rfl, hC, h1, h2, r⟩ := r1
    rw [hx] at hC
    obtain rfl := ns_one kC.ns hC
    obtain ⟨v, hv, rv⟩ := r.get hf
    exact ⟨ad, C', dx, fv, v, rfl, (L.step e1).same _ _ h1, kC.cl, hn C' kC.ns, hv, q v F1 H1 e1 rv⟩)
theorem ev_isiI {α : Type} [t : Inst α] {x : α} {n c : Str} {k : Bool} (hm : X.mg "isinstance" = none) (hx : OC X.K X.mg n) (hc : OC X.K X.mg c) (hk : OSub X.K n c k) (hn : t.cls x = n) (h : EV X Γ e x) (hg : autoParam (Gl X "isinstance") aRfl) (hgT : autoParam (Gl X c) aRfl) (hdT : autoParam ((c == ("__debug__" : Str)) = false) aDec)
    (hs : autoParam (starEach [e, .Name c p2] X.env = (false, eval e X.env) :: starEach [.Name c p2] X.env) aStar) (hs2 : autoParam (starEach [.Name c p2] X.env = (false, eval (.Name c p2) X.env) :: starEach [] X.env) aStar) (hpl : autoParam ((backTo pos (starEach [.Name c p2] X.env)).any (·.1) = false) aPl) :
    EV X Γ (.Call (.Name "isinstance" p) [e, .Name c p2] [] pos) k := fun B F H σ Q L q => by
  obtain ⟨D, xD, gD⟩ := hc
  obtain ⟨C, xC, gC⟩ := hx
  refine WE.of (pe_callB call_isi hg hm (by decide +kernel) (pa_cons peW (pa_cons (pe_glob (v := .ref D) hgT gD rfl hdT) pa_nil hs2) hs) (by decide) (by decide) hs hpl) (h B F H σ _ L fun v F1 H1 e1 r1 => ?_)
  obtain ⟨ad, C', dx, fv, rfl, hC, h1, h2, r⟩ := r1
  rw [hn] at hC
  obtain rfl := ns_one xC.ns hC
  exact ⟨.ref ad, .ref D, .ref C', .ref D, k, rfl, .own D, .base (.ins ((L.step e1).same _ _ h1) xC.cl xC.ha xC.hn xC.ht xC.hm), hk C' D xC.ns xD.ns, q _ F1 H1 e1 rfl⟩
theorem run_makeS {CX : CXT} {f C : Addr} {fd : FuncData} {ps : List Str} {sp : Sp} {k : Nat} {EE : XK} {pins : List (Addr × Obj)} {σ : L2.St} {H : Hp} {s : Shared} {Q : VK} {us : List Value} {vs : List V} (M : Mk X.K C f) (F : FnOk X.prog X.w X.K X.mg X.base CX k f fd ps sp) (hr : Room (k + 1) X.A) (hb : Binds X.K fd ps [])
    (hx : PassesAt CX X σ EE) (I : Inv X pins σ H s) (r : Vals vs us)
    (h : ∀ x dx, H x = none → H dx = none → dx ≠ x → sp (.ref x :: vs) (upd (upd H dx (.own x)) x (.ins C dx [])) (fun v H2 => v = .non ∧ Q (.ref x) H2) EE) :
    wpAny (model X.prog X.w) X.A (call (.ref C) us) (EP X pins σ Q) X.xe s := by
  have hq := h (s.heap.objs.size + 1) s.heap.objs.size (I.hok.fresh (Nat.le_succ _)) (I.hok.fresh (Nat.le_refl _)) (Nat.ne_of_lt (Nat.lt_succ_self _))
  have I2 := Inv.made (C := C) I
  have r2 : Vals (V.ref (s.heap.objs.size + 1) :: vs) (Value.ref (s.heap.objs.size + 1) :: us) := .cons rfl r
  have hl : (Value.ref (s.heap.objs.size + 1) :: us).length = ps.length := by
    have e := r2.length
    rw [F.len _ _ _ _ hq] at e
    exact e.symm
  have b := hb _ (Value.ref (s.heap.objs.size + 1) :: us) I2.kIn (by rw [List.append_nil]; exact hl)
  rw [List.append_nil] at b
  refine wpAny_call (make_map (f := f) I.kIn M.makes M.init (beq_iff_eq.mp M.fn) (codeAny_mono (F.run _ X.stack _ _ ⟨Value.ref (s.heap.objs.size + 1) :: us, []⟩ (Value.ref (s.heap.objs.size + 1) :: us) _ _ EE (hr.make C us [])
    (I2.env0.make C us []) b r2 hq) fun r s' hq' => ?_))
  cases r with
  | error e => exact hx pins _ _ e s' I2 hq'
  | ok fl =>
    cases fl with
    | ret u =>
      obtain ⟨v, H', I3, rv, ev, q3⟩ := I2.after hq'
      subst ev
      exact ⟨rv, ⟨V.ref (s.heap.objs.size + 1), H', I3, rfl, q3⟩⟩
    | next => exact False.elim hq'
    | brk => exact False.elim hq'
    | cont => exact False.elim hq'
theorem exx_make {n : Str} {k : Nat} {ps : List Str} {S : Spec} {A : List Slot} {P : Ret → Prop} {R : Exn → Prop} {fs : List (Str × Slot)} (hc : OC X.K X.mg n) (G : HasM X.prog X.w X.K X.mg X.base k n "__init__" ps S) (hr : Room (k + 1) X.A) (ha : EA X Γ (e :: es) A)
    (hS : ∀ C, PySem.W.nsIn X.K mainGlobals n = some (some (.ref C)) → ∀ ad dx, ∀ P' R', (P (.own fun o => ∃ ad dx, o = ownI C ad dx fs) → P' (.chg repUnit () [ownI C ad dx fs])) → (∀ y, R y → R' y) → S (.own (ownI C ad dx []) :: A) P' R') (hg : autoParam (Gl X n) aRfl) (hd : autoParam ((n == ("__debug__" : Str)) = false) aDec)
    (he : autoParam (starEach (e :: es) X.env = (false, eval e X.env) :: starEach es X.env) aStar) (hpl : autoParam ((backTo pos (starEach es X.env)).any (·.1) = false) aPl) : EXX X Γ (.Call (.Name n p) (e :: es) [] pos) P R := fun B F H σ Q L q z => by
  obtain ⟨C, kC, gC⟩ := hc
  obtain ⟨f, fd, hM, hb, GF⟩ := G.ex C kC.ns
  have M : Mk X.K C f := ⟨kC.mks, hM.at_, hM.fn, kC.kp⟩
  refine ⟨fun pins s I => ?_⟩
  refine wpAny_Call_Name_kw (ld_glob I hg gC ?_ hd)
  refine PySem.W.callWith_K (h₀ := X.base) I.ok.mod.kin kC.kp (thn ((ha B F H σ (fun vs H1 => ∃ F1, Ext F H F1 H1 ∧ VsOk X.K F1 vs A) L (fun vs F1 H1 e1 r1 => ⟨F1, e1, r1⟩)).go pos pins s I) fun us s1 ⟨vs, H1, I1, rvs, F1, e1, r1⟩ => ⟨I1.kIn, ?_⟩) he hpl
  refine run_makeS (EE := fun cls d H => XW X cls d σ H) M GF hr hb (passAt takesW σ) I1 rvs fun ad dx had hdx hne => ?_
  have s1' := (L.step e1).same
  have ea : Ext F1 H1 F1 (upd (upd H1 dx (.own ad)) ad (.ins C dx [])) := by
    have x1 := Ext.apart (o := .own ad) s1' hdx
    exact x1.trans (Ext.apart (o := .ins C dx []) x1.fh (by rw [upd_ne (Ne.symm hne)]; exact had))
  have e2 := e1.trans ea
  have nA : noOwn A = true := by
    refine List.all_eq_true.mpr fun t ht => ?_
    cases t with
    | own o => exact absurd ht (r1.no o)
    | no => rfl
    | val i x => rfl
  have maN : ∀ b, MA (.own (ownI C ad dx []) :: A) b → H1 b = none := fun b m => by
    have hb := ma_one nA m
    have hb' : b = ad ∨ b = dx := by
      have : b ∈ [ad, dx] := hb
      simpa using this
    rcases hb' with rfl | rfl
    · exact had
    · exact hdx
  have fN : ∀ b ∈ [ad, dx], F1 b = none := fun b hb => by
    have hb' : b = ad ∨ b = dx := by simpa using hb
    rcases hb' with rfl | rfl
    · exact s1'.free had
    · exact s1'.free hdx
  have toExt : ∀ {F2 H2}, ExtM (MA (.own (ownI C ad dx []) :: A)) F1 (upd (upd H1 dx (.own ad)) ad (.ins C dx [])) F2 H2 → Ext F H F2 H2 := fun {F2 H2} x => e1.trans (ea.thenM x maN)
  have toN : ∀ b, Bs.nw ⟨F1, upd (upd H1 dx (.own ad)) ad (.ins C dx []), MA (.own (ownI C ad dx []) :: A)⟩ b → H b = none := fun b h => h.elim (fun w => e1.hs.free (ea.hs.free w)) fun m => e1.hs.free (maN b m)
  refine ⟨F1, .own (ownI C ad dx []) :: A, ea.fh, ⟨⟨rfl, Ne.symm hne, ?_, [], upd_same, trivial⟩, fN, r1.toO⟩, apart_one nA, hS C kC.ns ad dx _ _ (fun hP v F2 H2 x2 ok => ?_) fun y hy u d F2 H2 x2 ok => ?_⟩
  · rw [upd_ne hne, upd_same]
  · obtain ⟨rv0, fo, _⟩ := ok
    obtain ⟨ok', f'⟩ := fo _ (List.mem_singleton.mpr rfl)
    exact ⟨rv0, q _ (.ref ad) F2 H2 hP (toExt x2) ⟨ownI C ad dx fs, ⟨ad, dx, rfl⟩, fun b hb => ⟨toN b (f' b hb).1, (f' b hb).2⟩, ok'⟩⟩
  · exact z y u d F2 H2 hy (toExt x2) (ok.imp toN)
theorem exx_meth {α : Type} [t : Inst α] {x : α} {n m : Str} {k : Nat} {ps : List Str} {S : Spec} {A : List Slot} {P : Ret → Prop} {R : Exn → Prop} {o : Expr} {apos : Pos} {pl : Sem Bool} (hc : OC X.K X.mg n) (G : HasM X.prog X.w X.K X.mg X.base k n m ps S) (hr : Room k X.A) (hx : t.cls x = n) (hm : (t.flds x).lookup m = none) (ho : EV X Γ o x) (ha : EA X Γ (e :: es) A)
    (hS : ∀ P' R', (∀ r, P r → P' r) → (∀ y, R y → R' y) → S (.val repInst x :: A) P' R') (hst : autoParam (starEach (e :: es) X.env = (false, eval e X.env) :: starEach es X.env) aStar) (hpl : autoParam ((backTo pos (starEach es X.env)).any (·.1) = false) aPl)
    (ht : autoParam (eval (.Call (.Attribute o m apos) (e :: es) [] pos) X.env = (do
      let ov ← eval o X.env
      standAt apos.atName
      let (f, first) ← holding [ov] (getMethod ov m pl)
      callWith pos f first (backTo pos (starEach (e :: es) X.env)) (backToKw pos (keywordEach [] X.env)))) aRfl) : EXX X Γ (.Call (.Attribute o m apos) (e :: es) [] pos) P R := fun B F H σ Q L q z => by
  obtain ⟨C, kC, gC⟩ := hc
  obtain ⟨f, fd, hM, hb, GF⟩ := G.ex C kC.ns
  refine ⟨fun pins s I => ?_⟩
  refine PySem.W.methodCall_KW (pl := pl) (thn ((ho B F H σ (fun v H1 => ∃ F1, Ext F H F1 H1 ∧ repInst.rp X.K F1 v x) L (fun v F1 H1 e1 r1 => ⟨F1, e1, r1⟩)).go pins s I) fun u s1 ⟨v, H1, I1, rv1, F1, e1, r1⟩ => ?_) ht
  obtain ⟨ad, C', dx, fv, rfl, hC, h1, h2, r⟩ := id r1
  rw [hx] at hC
  obtain rfl := ns_one kC.ns hC
  obtain rfl : u = Value.ref ad := rv1
  refine getmeth_ok I1 ((L.step e1).same _ _ h1) kC.cl hM (r.no hm) ?_
  refine PySem.W.callWith_K (first := [.ref ad]) (h₀ := X.base) I.ok.mod.kin hM.kp (thn ((ha B F1 H1 σ (fun vs H2 => ∃ F2, Ext F1 H1 F2 H2 ∧ VsOk X.K F2 vs A) (L.step e1) (fun vs F2 H2 e2 r2 => ⟨F2, e2, r2⟩)).go pos pins s1 I1) fun us s2 ⟨vs, H2, I2, rvs, F2, e2, r2⟩ => ⟨I2.kIn, ?_⟩) hst hpl
  have e12 := e1.trans e2
  have rA : VsOk X.K F2 (.ref ad :: vs) (.val repInst x :: A) := ⟨repInst.mono e2.ff r1, r2⟩
  refine run_fnS (E := fun σ cls d H => XW X cls d σ H) (us := .ref ad :: us) (vs := .ref ad :: vs) GF hr hb (passAt takesW σ) I2 (.cons rfl rvs) ?_
  exact ⟨F2, _, (L.step e12).same, rA.toO, rA.apart, hS _ _ (fun r hr v F3 H3 e3 ok => q r v F3 H3 hr (e12.thenM e3 fun _ m => (rA.ma m).elim) (ok.imp fun b h => e12.hs.free (h.elim id fun m => (rA.ma m).elim))) fun y hy u d F3 H3 e3 ok => z y u d F3 H3 hy (e12.thenM e3 fun _ m => (rA.ma m).elim) (ok.imp fun b h => e12.hs.free (h.elim id fun m => (rA.ma m).elim))⟩
theorem exx_meth0 {α : Type} [t : Inst α] {x : α} {n m : Str} {k : Nat} {ps : List Str} {S : Spec} {P : Ret → Prop} {R : Exn → Prop} {o : Expr} {apos : Pos} {pl : Sem Bool} (hc : OC X.K X.mg n) (G : HasM X.prog X.w X.K X.mg X.base k n m ps S) (hr : Room k X.A) (hx : t.cls x = n) (hm : (t.flds x).lookup m = none) (ho : EV X Γ o x)
    (hS : ∀ P' R', (∀ r, P r → P' r) → (∀ y, R y → R' y) → S [.val repInst x] P' R')
    (ht : autoParam (eval (.Call (.Attribute o m apos) [] [] pos) X.env = (do
      let ov ← eval o X.env
      standAt apos.atName
      let (f, first) ← holding [ov] (getMethod ov m pl)
      callWith pos f first (backTo pos (starEach [] X.env)) (backToKw pos (keywordEach [] X.env)))) aRfl) : EXX X Γ (.Call (.Attribute o m apos) [] [] pos) P R := fun B F H σ Q L q z => by
  obtain ⟨C, kC, gC⟩ := hc
  obtain ⟨f, fd, hM, hb, GF⟩ := G.ex C kC.ns
  refine ⟨fun pins s I => ?_⟩
  refine PySem.W.methodCall_KW (pl := pl) (thn ((ho B F H σ (fun v H1 => ∃ F1, Ext F H F1 H1 ∧ repInst.rp X.K F1 v x) L (fun v F1 H1 e1 r1 => ⟨F1, e1, r1⟩)).go pins s I) fun u s1 ⟨v, H1, I1, rv1, F1, e1, r1⟩ => ?_) ht
  obtain ⟨ad, C', dx, fv, rfl, hC, h1, h2, r⟩ := id r1
  rw [hx] at hC
  obtain rfl := ns_one kC.ns hC
  obtain rfl : u = Value.ref ad := rv1
  refine getmeth_ok I1 ((L.step e1).same _ _ h1) kC.cl hM (r.no hm) ?_
  have rA : VsOk X.K F1 [.ref ad] [.val repInst x] := ⟨r1, trivial⟩
  refine PySem.W.callWith_K0 (first := [.ref ad]) I1.kIn hM.kp (run_fnS (E := fun σ cls d H => XW X cls d σ H) (us := [.ref ad]) (vs := [.ref ad]) GF hr hb (passAt takesW σ) I1 (.cons rfl .nil) ?_)
  exact ⟨F1, _, (L.step e1).same, rA.toO, rA.apart, hS _ _ (fun r hr v F3 H3 e3 ok => q r v F3 H3 hr (e1.thenM e3 fun _ m => (rA.ma m).elim) (ok.imp fun b h => e1.hs.free (h.elim id fun m => (rA.ma m).elim))) fun y hy u d F3 H3 e3 ok => z y u d F3 H3 hy (e1.thenM e3 fun _ m => (rA.ma m).elim) (ok.imp fun b h => e1.hs.free (h.elim id fun m => (rA.ma m).elim))⟩
theorem ex_of_exx {P : Ret → Prop} (h : EXX X Γ e P fun _ => False) : EX X Γ e P := fun B F H σ Q L q => h B F H σ Q L q fun _ _ _ _ _ z => z.elim
noncomputable def CInit (K : PySem.W.Frag) (n : Str) : Prop := ∀ C f, PySem.W.nsIn K mainGlobals n = some (some (.ref C)) → PySem.W.findIn K (.ref C) "__init__" = some (some (.ref f)) →
  PySem.W.specialIn K (.ref C) "__getattribute__" = some (some (.builtin "type.__getattribute__")) ∧ PySem.W.readsIn K C (.type "type") = true ∧ PySem.W.findCls K (.ref C) (.type "type") "__init__" = some (.val (.ref f))
theorem CInit.mk {K : PySem.W.Frag} {n : Str} {C f : Addr} (a : PySem.W.nsIn K mainGlobals n = some (some (.ref C))) (b : PySem.W.findIn K (.ref C) "__init__" = some (some (.ref f))) (c1 : PySem.W.specialIn K (.ref C) "__getattribute__" = some (some (.builtin "type.__getattribute__"))) (c2 : PySem.W.readsIn K C (.type "type") = true)
    (c3 : PySem.W.findCls K (.ref C) (.type "type") "__init__" = some (.val (.ref f))) : CInit K n := fun C' f' e1 e2 => by
  obtain rfl := ns_one a e1
  rw [b] at e2
  cases e2
  exact ⟨c1, c2, c3⟩
theorem eg_cinit (k : Nat) {n : Str} {kk : Nat} {ps : List Str} {S : Spec} {o : Own} {A : List Slot} {P : Ret → List Slot → Prop} {R : Exn → List Slot → Prop} {G : Unit → Own → Prop} {p1 p2 : Pos} {pl : Sem Bool} (hc : OC X.K X.mg n) (hi : CInit X.K n) (GH : HasM X.prog X.w X.K X.mg X.base kk n "__init__" ps S) (hr : Room kk X.A)
    (ha : EAb X Γ (e :: es) (.own o :: A)) (hA : noOwn A = true) (hg : Γ[k]? = some (.own o)) (hG : ∀ x o', G x o' → o'.root = o.root) (hP : ∀ x o', G x o' → P (.val repUnit x) (Γ.set k (.own o'))) (hS : ∀ P' R', (∀ x o', G x o' → P' (.chg repUnit x [o'])) → (∀ y, R y (Γ.set k .no) → R' y) → S (.own o :: A) P' R') (hgl : autoParam (Gl X n) aRfl)
    (hd : autoParam ((n == ("__debug__" : Str)) = false) aDec)
    (ht : autoParam (eval (.Call (.Attribute (.Name n p1) "__init__" p2) (e :: es) [] pos) X.env = (do
      let ov ← eval (.Name n p1) X.env
      standAt p2.atName
      let (f, first) ← holding [ov] (getMethod ov "__init__" pl)
      callWith pos f first (backTo pos (starEach (e :: es) X.env)) (backToKw pos (keywordEach [] X.env)))) aRfl)
    (he : autoParam (starEach (e :: es) X.env = (false, eval e X.env) :: starEach es X.env) aStar) (hpl : autoParam ((backTo pos (starEach es X.env)).any (·.1) = false) aPl) : EG X Γ (.Call (.Attribute (.Name n p1) "__init__" p2) (e :: es) [] pos) P R := fun B F H σ Q L q z => by
  obtain ⟨C, kC, gC⟩ := hc
  obtain ⟨f, fd, hM, hb, GF⟩ := GH.ex C kC.ns
  obtain ⟨i1, i2, i3⟩ := hi C f kC.ns hM.at_
  refine ⟨fun pins s I => ?_⟩
  refine PySem.W.methodCall_KW (ld_glob I hgl gC ?_ hd) ht
  refine PySem.W.method_cls I.kIn i1 (PySem.W.cls_value I.kIn i2 i3 (by rfl) ?_)
  refine PySem.W.callWith_K (first := []) (h₀ := X.base) I.ok.mod.kin hM.kp (thn ((ha B F H σ (fun vs H1 => ∃ F1, Ext F H F1 H1 ∧ VsOkO X.K F1 H1 vs (.own o :: A)) L (fun vs F1 H1 e1 r1 => ⟨F1, e1, r1⟩)).go pos pins _ (I.tok _)) fun us s1 ⟨vs, H1, I1, rvs, F1, e1, r1⟩ => ⟨I1.kIn, ?_⟩) he hpl
  refine run_fnS (E := fun σ cls d H => XW X cls d σ H) GF hr hb (passAt takesW σ) I1 rvs ?_
  exact ⟨F1, _, (L.step e1).same, r1, apart_one hA, hS _ _ (fun x o' hx => borrow_rets hg L e1 (fun b m => ma_one hA m) hG hP q hx) fun y hy => borrow_exns hg L e1 (fun b m => ma_one hA m) z hy⟩
end
end Tw
namespace Tw
open PySem PySem.Spec PyProof.Rows L2 TL
noncomputable def HetOk (K : PySem.W.Frag) (F : Hp) : List V → List Slot → Prop
  | [], [] => True
  | v :: vs, s :: A => SlotV K F v s ∧ HetOk K F vs A
  | _, _ => False
theorem HetOk.mono {K : PySem.W.Frag} {F F' : Hp} (s : Same F F') : ∀ {vs : List V} {A : List Slot}, HetOk K F vs A → HetOk K F' vs A
  | [], [], _ => trivial
  | v :: vs, t :: A, h => ⟨h.1.mono s, HetOk.mono s h.2⟩
  | [], _ :: _, h => h.elim
  | _ :: _, [], h => h.elim
theorem HetOk.len {K : PySem.W.Frag} {F : Hp} : ∀ {vs : List V} {A : List Slot}, HetOk K F vs A → vs.length = A.length
  | [], [], _ => rfl
  | v :: vs, t :: A, h => by rw [List.length_cons, List.length_cons, HetOk.len h.2]
  | [], _ :: _, h => h.elim
  | _ :: _, [], h => h.elim
theorem HetOk.get {K : PySem.W.Frag} {F : Hp} : ∀ {vs : List V} {A : List Slot} {k : Nat} {s : Slot}, HetOk K F vs A → A[k]? = some s → ∃ v, vs[k]? = some v ∧ SlotV K F v s
  | [], [], _, _, _, h => by cases h
  | v :: vs, t :: A, 0, s, h, e => by
    have : t = s := by simpa using e
    subst this
    exact ⟨v, rfl, h.1⟩
  | v :: vs, t :: A, k + 1, s, h, e => by
    obtain ⟨u, hu, r⟩ := HetOk.get (k := k) h.2 (by simpa using e)
    exact ⟨u, by simpa using hu, r⟩
  | [], _ :: _, _, _, h, _ => h.elim
  | _ :: _, [], _, _, h, _ => h.elim
theorem HetOk.set {K : PySem.W.Frag} {F : Hp} {v : V} {s : Slot} (r : SlotV K F v s) : ∀ {vs : List V} {A : List Slot} (k : Nat), HetOk K F vs A → HetOk K F (vs.set k v) (A.set k s)
  | [], [], _, _ => trivial
  | _ :: _, _ :: _, 0, h => ⟨r, h.2⟩
  | _ :: _, _ :: _, k + 1, h => ⟨h.1, HetOk.set r k h.2⟩
  | [], _ :: _, _, h => h.elim
  | _ :: _, [], _, h => h.elim
class Het (α : Type) where
  els : α → List Slot
noncomputable instance (priority := low) repHet {α : Type} [t : Het α] : Rep α := ⟨fun K F v x => ∃ a vs, v = .ref a ∧ F a = some (.lst vs) ∧ HetOk K F vs (t.els x), fun s ⟨a, vs, e, h, r⟩ => ⟨a, vs, e, s _ _ h, r.mono s⟩⟩
section
variable {X : Cx} {Γ : List Slot} {α β γ : Type} {i : Rep α} {j : Rep β} {pos p p2 : Pos} {e a b c : Expr} {es : List Expr} {E : SE} {rest body : List Stmt}
theorem st_retO (k : Nat) {n : Str} {o : Own} {P0 : Own → Prop} (hP : E.rt (.own P0)) (ho : P0 o) (hg : autoParam (Γ[k]? = some (.own o)) aRfl) (hN : autoParam (X.N[k]? = some n) aRfl) (hv : autoParam (Vis X.env.scope n) aVis) (hd : autoParam ((n == ("__debug__" : Str)) = false) aDec)
    (hcd : autoParam ((n == ("__classdict__" : Str)) = false) aDec) : ST X (.Return (some (.Name n p)) pos :: rest) Γ E := fun B F H σ D L ed => by
  obtain ⟨v, ev, ok, f⟩ := slot_own L hg
  exact WP.cons (ps_ret (pe_var hN hv hd hcd)) ⟨v, ev, ed.rt (.own P0) v F H hP L.ext ⟨o, ho, fun b hb => ⟨(f b hb).2, (f b hb).1⟩, ok⟩⟩
theorem st_setFR {n f : Str} {p' : Pos} {R : Exn → Prop} (he : EXX X Γ e (fun _ => False) R) (hR : ∀ x, R x → E.ex Γ x) (k : Nat) (hN : autoParam (X.N[k]? = some n) aRfl) (hv : autoParam (Vis X.env.scope n) aVis) (hd : autoParam ((n == ("__debug__" : Str)) = false) aDec) (hcd : autoParam ((n == ("__classdict__" : Str)) = false) aDec)
    (hs : autoParam (swapsWith e (some (.Attribute (.Name n p) f p')) pos.line X.env = pure false) aRfl) : ST X (.Assign [.Attribute (.Name n p) f p'] e pos :: rest) Γ E := fun B F H σ D L ed =>
  WP.cons (ps_fld (pe_var hN hv hd hcd) peW hs) (he B F H σ _ L (fun r v F1 H1 er e1 r1 => er.elim) fun x u d F1 H1 hx e1 ok => ed.exS (Same.refl F) (hR x hx) L e1 ok)
noncomputable def strI (n : Int) : Tx := tl (Str.ofString (toString n))
theorem en_meth0 {α : Type} [t : Inst α] {x : α} {ys : List β} {n m : Str} {k : Nat} {ps : List Str} {S : Spec} {o : Expr} {apos : Pos} {pl : Sem Bool} (hc : OC X.K X.mg n) (G : HasM X.prog X.w X.K X.mg X.base k n m ps S) (hr : Room k X.A) (hx : t.cls x = n) (hm : (t.flds x).lookup m = none) (ho : EV X Γ o x) (hS : ∀ P' R', P' (.new j ys) → S [.val repInst x] P' R')
    (ht : autoParam (eval (.Call (.Attribute o m apos) [] [] pos) X.env = (do
      let ov ← eval o X.env
      standAt apos.atName
      let (f, first) ← holding [ov] (getMethod ov m pl)
      callWith pos f first (backTo pos (starEach [] X.env)) (backToKw pos (keywordEach [] X.env)))) aRfl) : EN X Γ (.Call (.Attribute o m apos) [] [] pos) ys :=
  en_of_ex (ex_of_exx (exx_meth0 hc G hr hx hm ho (fun P' R' h _ => hS P' R' (h _ rfl)) ht))
end
end Tw
namespace Tw
open PySem PySem.Spec PyProof.Rows L2 TL
section
variable {X : Cx} {Γ : List Slot} {α β γ : Type} {i : Rep α} {j : Rep β} {pos p p2 : Pos} {e a b c : Expr} {es : List Expr} {E : SE} {rest body : List Stmt}
theorem exx_makeV {α : Type} [t : Inst α] {x : α} {n : Str} {k : Nat} {ps : List Str} {S : Spec} {A : List Slot} {R : Exn → Prop} (hc : OC X.K X.mg n) (G : HasM X.prog X.w X.K X.mg X.base k n "__init__" ps S) (hr : Room (k + 1) X.A) (hx : t.cls x = n) (ha : EA X Γ (e :: es) A)
    (hS : ∀ C, PySem.W.nsIn X.K mainGlobals n = some (some (.ref C)) → ∀ ad dx, ∀ P' R', P' (.chg repUnit () [ownI C ad dx (t.flds x)]) → (∀ y, R y → R' y) → S (.own (ownI C ad dx []) :: A) P' R') (hg : autoParam (Gl X n) aRfl) (hd : autoParam ((n == ("__debug__" : Str)) = false) aDec)
    (he : autoParam (starEach (e :: es) X.env = (false, eval e X.env) :: starEach es X.env) aStar) (hpl : autoParam ((backTo pos (starEach es X.env)).any (·.1) = false) aPl) : EXX X Γ (.Call (.Name n p) (e :: es) [] pos) (fun r => r = .val repInst x) R := fun B F H σ Q L q z => by
  obtain ⟨C, kC, gC⟩ := id hc
  refine exx_make (P := fun r => r = .own fun o => ∃ ad dx, o = ownI C ad dx (t.flds x)) (R := R) (fs := t.flds x) hc G hr ha (fun C' e' ad dx P' R' h1 h2 => by
    obtain rfl := ns_one kC.ns e'
    exact hS _ e' ad dx P' R' (h1 rfl) h2) hg hd he hpl B F H σ _ L (fun r v F1 H1 er e1 r1 => ?_) z
  subst er
  obtain ⟨o, ⟨ad, dx, rfl⟩, f, ok1⟩ := r1
  have s1 := (L.step e1).same
  have f0 : ∀ b ∈ [ad, dx], F1 b = none := fun b hb => (f b hb).2
  refine q _ v (frz F1 H1 [ad, dx]) H1 rfl ⟨e1.ff.trans (frz_le f0), frz_same s1, e1.hh, fun b _ h1 h2 => by
    rw [frz_out (ps := [ad, dx]) (fun hb => h2 (f b hb).1)]; exact e1.nw b h1 h2, fun _ z => z.elim⟩ ?_
  exact frozI (K0 := X.K) (fun K e => by rw [e, hx]; exact kC.ns) s1 ok1 f0
theorem ev_makeV {α : Type} [t : Inst α] {x : α} {n : Str} {k : Nat} {ps : List Str} {S : Spec} {A : List Slot} (hc : OC X.K X.mg n) (G : HasM X.prog X.w X.K X.mg X.base k n "__init__" ps S) (hr : Room (k + 1) X.A) (hx : t.cls x = n) (ha : EA X Γ (e :: es) A)
    (hS : ∀ C, PySem.W.nsIn X.K mainGlobals n = some (some (.ref C)) → ∀ ad dx, ∀ P' R', P' (.chg repUnit () [ownI C ad dx (t.flds x)]) → S (.own (ownI C ad dx []) :: A) P' R') (hg : autoParam (Gl X n) aRfl) (hd : autoParam ((n == ("__debug__" : Str)) = false) aDec)
    (he : autoParam (starEach (e :: es) X.env = (false, eval e X.env) :: starEach es X.env) aStar) (hpl : autoParam ((backTo pos (starEach es X.env)).any (·.1) = false) aPl) : EV X Γ (.Call (.Name n p) (e :: es) [] pos) x :=
  ev_of_ex (ex_of_exx (exx_makeV (R := fun _ => False) hc G hr hx ha (fun C h ad dx P' R' h1 _ => hS C h ad dx P' R' h1) hg hd he hpl))
theorem st_dropR {R : Exn → Prop} (he : EXX X Γ e (fun _ => False) R) (hR : ∀ x, R x → E.ex Γ x) (hs : autoParam (swapsWith e none pos.line X.env = pure false) aRfl) : ST X (.Expr e pos :: rest) Γ E := fun B F H σ D L ed =>
  WP.cons (ps_expr peW hs) (he B F H σ _ L (fun r v F1 H1 z _ _ => z.elim) fun x u d F1 H1 hx e1 ok => ed.exS (Same.refl F) (hR x hx) L e1 ok)
theorem ev_of_en_aux {B : Bs} {F H F' H' : Hp} {σ : L2.St} {Q : VK} {xs : List α} {v : V} {G : List α → Prop} (hG : G xs) (L : Lc X.K B F H σ Γ) (ex : Ext F H F' H') (r1 : ROk X.K (Nw H) F' H' v (.new i xs)) (q : ∀ (r : Ret) (v : V) (F' H' : Hp), (∃ xs, G xs ∧ r = .val repList xs) → Ext F H F' H' → ROk X.K (Nw H) F' H' v r → Q v H') : Q v H' := by
  obtain ⟨a, vs, rfl, ha, fa, h', p⟩ := r1
  have sm : Same F' (upd F' a (.lst vs)) := fun b u e => by rw [upd_ne (ne_of_none e fa)]; exact e
  refine q (.val repList xs) (.ref a) (upd F' a (.lst vs)) H' ⟨xs, hG, rfl⟩ ⟨ex.ff.trans sm, fun b u e => ?_, ex.hh, fun b _ h1 h2 => ?_, fun _ z => z.elim⟩ ⟨a, vs, rfl, upd_same, Paired.mapP p fun _ _ q => i.mono sm q⟩
  · by_cases hb : b = a
    · subst hb; rw [upd_same] at e; rw [← e]; exact h'
    · rw [upd_ne hb] at e; exact ex.fh _ _ e
  · rw [upd_ne (fun z => by subst z; exact h2 ha)]; exact ex.nw b h1 h2
theorem exv_of_exn {G : List α → Prop} (h : EX X Γ e (fun r => ∃ xs, G xs ∧ r = .new i xs)) : EX X Γ e (fun r => ∃ xs, G xs ∧ r = .val repList xs) := fun B F H σ Q L q =>
  h B F H σ _ L fun r v F1 H1 er e1 r1 => by
    obtain ⟨xs, hG, rfl⟩ := er
    refine ev_of_en_aux hG L e1 r1 q
end
end Tw
namespace Tw
open PySem PySem.Spec PyProof.Rows L2 TL
section
variable {X : Cx} {Γ : List Slot} {α β γ : Type} {i : Rep α} {j : Rep β} {pos p p2 : Pos} {e a b c : Expr} {es : List Expr} {E : SE} {rest body : List Stmt}
theorem eqV_str {x y : Tx} : eqV (.str (sx x)) (.str (sx y)) = decide (x = y) := by
  show decide (sx x = sx y) = _
  exact decide_eq_decide.mpr ⟨fun h => by rw [← tl_sx x, h, tl_sx], fun h => by rw [h]⟩
theorem inV_strs {x : Tx} {ys : List Tx} : inV (.str (sx x)) (ys.map fun t => V.str (sx t)) = decide (x ∈ ys) := by
  induction ys with
  | nil => rfl
  | cons y ys ih =>
    show (eqV _ _ || inV _ _) = _
    rw [ih, eqV_str]
    by_cases h : y = x
    · subst h; simp
    · simp [h, Ne.symm h]
theorem pd_strs {K : PySem.W.Frag} {F : Hp} : ∀ {vs : List V} {ys : List Tx}, Paired (fun u x => repTx.rp K F u x) vs ys → vs = ys.map fun t => V.str (sx t)
  | _, _, .nil => rfl
  | _, _, .cons r p => by
    rw [pd_strs p, List.map_cons]
    congr 1
theorem o_notInLS {x : Tx} {ys : List Tx} : OB X (compareOp .NotIn) x ys (!decide (x ∈ ys)) := fun F H v u Q s r1 r2 q pins s' σ va vb I rv1 rv2 => by
  obtain rfl : v = .str (sx x) := r1
  obtain ⟨ad, vs, rfl, h1, pr⟩ := r2
  obtain rfl := pd_strs pr
  refine op_notIn_seq pins s' σ H _ _ va vb Q I rv1 rv2 ⟨ad, _, rfl, .inl (sq_of s h1), rfl, ?_, ?_⟩
  · rw [List.all_map]; exact List.all_eq_true.mpr fun _ _ => rfl
  · rw [if_pos rfl, inV_strs]
    exact q _ F H (Ext.refl s) rfl
end
end Tw
namespace Tw
open PySem PySem.Spec PyProof.Rows L2 TL
structure Dic (κ α : Type) where
  l : List (κ × α)
section
variable {κ : Type} [DecidableEq κ] {α : Type}
noncomputable def look (l : List (κ × α)) (k : κ) : Option α := (l.find? fun p => decide (p.1 = k)).map (·.2)
noncomputable def put (l : List (κ × α)) (k : κ) (v : α) : List (κ × α) := if (l.any fun p => decide (p.1 = k)) = true then l.map (fun p => if p.1 = k then (p.1, v) else p) else l ++ [(k, v)]
theorem look_nil {k : κ} : look ([] : List (κ × α)) k = none := rfl
theorem look_pos {p : κ × α} {r : List (κ × α)} {k : κ} (e : p.1 = k) : look (p :: r) k = some p.2 := by simp [look, List.find?_cons, e]
theorem look_neg {p : κ × α} {r : List (κ × α)} {k : κ} (e : ¬ p.1 = k) : look (p :: r) k = look r k := by simp [look, List.find?_cons, e]
theorem look_any (k : κ) : ∀ l : List (κ × α), (l.any fun p => decide (p.1 = k)) = (look l k).isSome
  | [] => rfl
  | p :: r => by
    rw [List.any_cons]
    by_cases e : p.1 = k
    · simp only [look_pos e, decide_eq_true e, Bool.true_or, Option.isSome_some]
    · rw [look_neg e, decide_eq_false e, Bool.false_or]; exact look_any k r
theorem look_map (k j : κ) (y : α) : ∀ l : List (κ × α), look (l.map fun p => if p.1 = k then (p.1, y) else p) j = (look l j).map fun x => if j = k then y else x
  | [] => rfl
  | p :: r => by
    have ih := look_map k j y r
    rw [List.map_cons]
    by_cases h : p.1 = k
    · rw [if_pos h]
      by_cases e : p.1 = j
      · rw [look_pos (p := (p.1, y)) e, look_pos e, Option.map_some, if_pos (e.symm.trans h)]
      · rw [look_neg (p := (p.1, y)) e, look_neg e, ih]
    · rw [if_neg h]
      by_cases e : p.1 = j
      · rw [look_pos e, look_pos e, Option.map_some, if_neg fun z => h (e.trans z)]
      · rw [look_neg e, look_neg e, ih]
theorem look_snoc (k j : κ) (y : α) : ∀ l : List (κ × α), look l k = none → look (l ++ [(k, y)]) j = if j = k then some y else look l j
  | [], _ => by
    rw [List.nil_append]
    by_cases e : k = j
    · rw [if_pos e.symm]; exact look_pos (p := (k, y)) e
    · rw [if_neg fun z => e z.symm]; exact look_neg (p := (k, y)) e
  | p :: r, hn => by
    have hk : ¬ p.1 = k := fun z => by rw [look_pos z] at hn; cases hn
    rw [look_neg hk] at hn
    have ih := look_snoc k j y r hn
    rw [List.cons_append]
    by_cases e : p.1 = j
    · rw [look_pos e, look_pos e, if_neg fun z => hk (e.trans z)]
    · rw [look_neg e, look_neg e, ih]
theorem look_put (l : List (κ × α)) (k j : κ) (y : α) : look (put l k y) j = if j = k then some y else look l j := by
  unfold put
  by_cases a : (l.any fun p => decide (p.1 = k)) = true
  · rw [if_pos a, look_map]
    rw [look_any] at a
    by_cases e : j = k
    · subst e
      obtain ⟨x, hx⟩ := Option.isSome_iff_exists.mp a
      rw [hx, Option.map_some, if_pos rfl]; simp
    · rw [if_neg e]
      cases look l j with
      | none => rfl
      | some x => simp [e]
  · rw [if_neg a]
    refine look_snoc k j y l ?_
    rw [look_any] at a
    cases q : look l k with
    | none => rfl
    | some x => rw [q] at a; exact (a rfl).elim
theorem put_len (l : List (κ × α)) (k : κ) (v : α) : (put l k v).length ≤ l.length + 1 := by
  unfold put
  split
  · rw [List.length_map]; omega
  · rw [List.length_append, List.length_cons, List.length_nil]; omega
theorem put_new {l : List (κ × α)} {k : κ} (v : α) (h : look l k = none) : put l k v = l ++ [(k, v)] := by
  unfold put
  rw [look_any, h]
  exact if_neg Bool.false_ne_true
theorem put_keys {l : List (κ × α)} {k : κ} {v : α} : (put l k v).map (·.1) = if (look l k).isSome then l.map (·.1) else l.map (·.1) ++ [k] := by
  unfold put
  rw [look_any]
  cases (look l k).isSome with
  | true =>
    rw [if_pos rfl, if_pos rfl, List.map_map]
    refine List.map_congr_left fun p _ => ?_
    show (if p.1 = k then (p.1, v) else p).1 = p.1
    split <;> rfl
  | false => rw [if_neg (by decide), if_neg (by decide), List.map_append]; rfl
theorem look_mem {l : List (κ × α)} {k : κ} {v : α} (h : look l k = some v) : (k, v) ∈ l := by
  induction l with
  | nil => cases h
  | cons p r ih =>
    by_cases e : p.1 = k
    · rw [look_pos e] at h
      obtain ⟨a, b⟩ := p
      cases Option.some.inj h
      cases (show a = k from e)
      exact List.mem_cons_self ..
    · rw [look_neg e] at h
      exact List.mem_cons_of_mem _ (ih h)
theorem look_none {l : List (κ × α)} {k : κ} : look l k = none ↔ k ∉ l.map (·.1) := by
  induction l with
  | nil => simp [look_nil]
  | cons p r ih =>
    by_cases e : p.1 = k
    · rw [look_pos e]; simp [e]
    · rw [look_neg e, ih, List.map_cons, List.mem_cons]
      constructor
      · rintro h (z | z)
        · exact e z.symm
        · exact h z
      · exact fun h z => h (.inr z)
theorem look_of_mem {l : List (κ × α)} {k : κ} {v : α} (nd : (l.map (·.1)).Nodup) (h : (k, v) ∈ l) : look l k = some v := by
  induction l with
  | nil => cases h
  | cons p r ih =>
    rw [List.map_cons, List.nodup_cons] at nd
    rcases List.mem_cons.mp h with e | h
    · subst e; exact look_pos rfl
    · rw [look_neg fun z => nd.1 (z ▸ List.mem_map.mpr ⟨_, h, rfl⟩)]
      exact ih nd.2 h
theorem put_nodup {l : List (κ × α)} {k : κ} {v : α} (nd : (l.map (·.1)).Nodup) : ((put l k v).map (·.1)).Nodup := by
  rw [put_keys]
  cases h : look l k with
  | some x => exact nd
  | none =>
    show (l.map (·.1) ++ [k]).Nodup
    rw [List.nodup_append]
    refine ⟨nd, List.nodup_cons.mpr ⟨by simp, List.nodup_nil⟩, fun a ha b hb => ?_⟩
    rw [List.mem_singleton] at hb
    subst hb
    exact fun z => look_none.mp h (z ▸ ha)
theorem valV_inj {μ : Type} [DecidableEq μ] {e : κ → μ} (inj : ∀ x y, e x = e y → x = y) (k : κ) : ∀ kvs : List (κ × V), valV (kvs.map fun p => (e p.1, p.2)) (e k) = valV kvs k
  | [] => rfl
  | p :: r => by
    rw [List.map_cons]
    by_cases h : p.1 = k
    · rw [valV_pos (p := (e p.1, p.2)) (congrArg e h), valV_pos h]
    · rw [valV_neg (p := (e p.1, p.2)) fun z => h (inj _ _ z), valV_neg h, valV_inj inj k r]
theorem putK_inj {μ : Type} [DecidableEq μ] {e : κ → μ} (inj : ∀ x y, e x = e y → x = y) (k : κ) (v : V) (kvs : List (κ × V)) : putK (kvs.map fun p => (e p.1, p.2)) (e k) v = (putK kvs k v).map fun p => (e p.1, p.2) := by
  unfold putK
  rw [List.any_map]
  have : (fun p : κ × V => decide (p.1 = k)) = ((fun kv : μ × V => decide (kv.1 = e k)) ∘ fun p : κ × V => (e p.1, p.2)) := by
    funext p
    exact decide_eq_decide.mpr ⟨fun z => congrArg e z, fun z => inj _ _ z⟩
  rw [← this]
  split
  · rw [List.map_map, List.map_map]
    refine List.map_congr_left fun p _ => ?_
    show (if e p.1 = e k then (e p.1, v) else (e p.1, p.2)) = (fun p : κ × V => (e p.1, p.2)) (if p.1 = k then (p.1, v) else p)
    by_cases h : p.1 = k
    · rw [if_pos h, if_pos (congrArg e h)]
    · rw [if_neg h, if_neg fun z => h (inj _ _ z)]
  · rw [List.map_append]; rfl
end
class DKey (κ : Type) [i : Rep κ] [DecidableEq κ] where
  ho : List (κ × V) → HO
  empty : ∀ (X : Cx) (pos : Pos), PE X (.Dict [] [] pos) (fun _ H Q => ∀ p, H p = none → Q (.ref p) (upd H p (ho [])))
  get : ∀ {K : PySem.W.Frag} {F H : Hp} {a : Addr} {v : V} {x : κ} {kvs : List (κ × V)}, Same F H → H a = some (ho kvs) → i.rp K F v x → DGet H a v (valV kvs x)
  put : ∀ {K : PySem.W.Frag} {F H : Hp} {a : Addr} {y : V} {x : κ} {kvs : List (κ × V)} {v : V}, Same F H → H a = some (ho kvs) → i.rp K F y x → kvs.length < sizeLine → DPut H a y v (upd H a (ho (putK kvs x v)))
  isD : ∀ {H : Hp} {a : Addr} {kvs : List (κ × V)}, H a = some (ho kvs) → IsD H a
noncomputable def hoK {κ : Type} (e : κ → Key) (kvs : List (κ × V)) : HO := .dK (kvs.map fun p => (e p.1, p.2))
noncomputable def hoT {κ : Type} (e : κ → List Key) (kvs : List (κ × V)) : HO := .dT (kvs.map fun p => (e p.1, p.2))
noncomputable def DKey.ofK {κ : Type} [i : Rep κ] [DecidableEq κ] (e : κ → Key) (inj : ∀ x y, e x = e y → x = y) (h : ∀ {K F v x}, i.rp K F v x → v = kV (e x)) : DKey κ :=
  ⟨hoK e, fun X pos => pe_dnewK, fun {K F H a v x kvs} s ha r => by
    rw [h r, ← valV_inj inj x kvs]; exact DGet.k ha, fun {K F H a y x kvs v} s ha r hz => by
    rw [h r]
    unfold hoK
    rw [← putK_inj inj]
    exact DPut.k ha (by rw [List.length_map]; exact hz), fun ha => .inl ⟨_, .inl ha⟩⟩
noncomputable def DKey.ofT {κ : Type} [i : Rep κ] [DecidableEq κ] (e : κ → List Key) (inj : ∀ x y, e x = e y → x = y) (h : ∀ {K F v x}, i.rp K F v x → ∃ b, v = .ref b ∧ F b = some (.tup ((e x).map kV))) : DKey κ :=
  ⟨hoT e, fun X pos => pe_dnewT, fun {K F H a v x kvs} s ha r => by
    obtain ⟨b, rfl, hb⟩ := h r
    rw [← valV_inj inj x kvs]; exact DGet.t ha (s _ _ hb), fun {K F H a y x kvs v} s ha r hz => by
    obtain ⟨b, rfl, hb⟩ := h r
    unfold hoT
    rw [← putK_inj inj]
    exact DPut.t ha (s _ _ hb) (by rw [List.length_map]; exact hz), fun ha => .inr ⟨_, .inl ha⟩⟩
theorem inr_sx (x y : Tx) (h : (Sum.inr (sx x) : Key) = Sum.inr (sx y)) : x = y := sx_inj (Sum.inr.inj h)
noncomputable instance dkTx : DKey Tx := .ofK (fun x => .inr (sx x)) inr_sx fun {_ _ v x} h => h
noncomputable instance dkInt : DKey Int := .ofK (fun x => .inl x) (fun _ _ h => Sum.inl.inj h) fun {_ _ v x} h => h
class KPart (α : Type) [i : Rep α] where
  en : α → Key
  inj : ∀ x y, en x = en y → x = y
  rp : ∀ {K F v x}, i.rp K F v x → v = kV (en x)
noncomputable instance : KPart Tx := ⟨fun x => .inr (sx x), inr_sx, fun {_ _ v x} h => h⟩
noncomputable instance : KPart Int := ⟨fun x => .inl x, fun _ _ h => Sum.inl.inj h, fun {_ _ v x} h => h⟩
noncomputable instance dkPair {α β : Type} [i : Rep α] [j : Rep β] [DecidableEq α] [DecidableEq β] [p : KPart α] [q : KPart β] : DKey (α × β) :=
  .ofT (fun x => [p.en x.1, q.en x.2]) (fun x y h => by
    obtain ⟨h1, h2⟩ := List.cons.inj h
    obtain ⟨h2, _⟩ := List.cons.inj h2
    exact Prod.ext (p.inj _ _ h1) (q.inj _ _ h2)) fun {K F v x} ⟨a, u, w, e, h, r1, r2⟩ => ⟨a, e, by rw [h, p.rp r1, q.rp r2]; rfl⟩
noncomputable instance dkTup {α : Type} [i : Rep α] [DecidableEq α] [p : KPart α] : DKey (Tup α) :=
  .ofT (fun x => x.l.map p.en) (fun x y h => by
    cases x; cases y
    have : ∀ l m : List α, l.map p.en = m.map p.en → l = m := by
      intro l
      induction l with
      | nil => intro m h; cases m with | nil => rfl | cons _ _ => cases h
      | cons a l ih =>
        intro m h
        cases m with
        | nil => cases h
        | cons b m =>
          obtain ⟨h1, h2⟩ := List.cons.inj h
          rw [p.inj _ _ h1, ih m h2]
    exact congrArg Tup.mk (this _ _ h)) fun {K F v x} ⟨a, vs, e, h, pr⟩ => ⟨a, e, by
      rw [h]
      have : ∀ {vs : List V} {l : List α}, Paired (fun u x => i.rp K F u x) vs l → vs = (l.map p.en).map kV := by
        intro vs l h
        induction h with
        | nil => rfl
        | cons r _ ih => rw [List.map_cons, List.map_cons, ← ih, p.rp r]
      rw [this pr]⟩
section
variable {κ α : Type} [ik : Rep κ] [DecidableEq κ] [dk : DKey κ] {i : Rep α}
noncomputable abbrev DRel (i : Rep α) (K : PySem.W.Frag) (F : Hp) (kvs : List (κ × V)) (l : List (κ × α)) : Prop := Paired (fun (p : κ × V) (q : κ × α) => p.1 = q.1 ∧ i.rp K F p.2 q.2) kvs l
theorem DRel.val {K : PySem.W.Frag} {F : Hp} {k : κ} : ∀ {kvs : List (κ × V)} {l : List (κ × α)}, DRel i K F kvs l → (look l k = none → valV kvs k = none) ∧ ∀ y, look l k = some y → ∃ v, valV kvs k = some v ∧ i.rp K F v y
  | _, _, .nil => ⟨fun _ => rfl, fun y h => by cases h⟩
  | _, _, .cons (a := p) (b := q) r t => by
    have ih := DRel.val (k := k) t
    by_cases e : p.1 = k
    · rw [look_pos (r.1.symm.trans e), valV_pos e]
      exact ⟨fun z => (nomatch z), fun y h => ⟨_, rfl, by cases Option.some.inj h; exact r.2⟩⟩
    · rw [look_neg fun z => e (r.1.trans z), valV_neg e]
      exact ih
theorem DRel.put {K : PySem.W.Frag} {F : Hp} {k : κ} {v : V} {y : α} {kvs : List (κ × V)} {l : List (κ × α)} (h : DRel i K F kvs l) (r : i.rp K F v y) : DRel i K F (putK kvs k v) (put l k y) := by
  have e1 : (kvs.any fun kv => decide (kv.1 = k)) = l.any fun p => decide (p.1 = k) := by
    clear r
    induction h with
    | nil => rfl
    | cons r _ ih => rw [List.any_cons, List.any_cons, ih, r.1]
  unfold putK Tw.put
  rw [e1]
  split
  · clear e1
    have go : ∀ {ks : List (κ × V)} {ls : List (κ × α)}, DRel i K F ks ls → DRel i K F (ks.map fun kv => if kv.1 = k then (kv.1, v) else kv) (ls.map fun p => if p.1 = k then (p.1, y) else p) := by
      intro ks ls h
      induction h with
      | nil => exact .nil
      | @cons p q _ _ r' _ ih =>
        refine .cons ?_ ih
        show ((if p.1 = k then (p.1, v) else p).1 = (if q.1 = k then (q.1, y) else q).1 ∧ i.rp K F (if p.1 = k then (p.1, v) else p).2 (if q.1 = k then (q.1, y) else q).2)
        by_cases z : p.1 = k
        · rw [if_pos z, if_pos (r'.1.symm.trans z)]; exact ⟨r'.1, r⟩
        · rw [if_neg z, if_neg fun z2 => z (r'.1.trans z2)]; exact r'
    exact go h
  · exact papp h (.cons ⟨rfl, r⟩ .nil)
noncomputable instance repDic {α : Type} [i : Rep α] : Rep (Dic κ α) := ⟨fun K F v x => ∃ a kvs, v = .ref a ∧ F a = some (dk.ho kvs) ∧ DRel i K F kvs x.l,
  fun s ⟨a, kvs, e, h, p⟩ => ⟨a, kvs, e, s _ _ h, Paired.mapP p fun _ _ q => ⟨q.1, i.mono s q.2⟩⟩⟩
noncomputable def ownD (κ : Type) {α : Type} [ik : Rep κ] [DecidableEq κ] [dk : DKey κ] (i : Rep α) (a : Addr) (l : List (κ × α)) : Own where
  fp := [a]
  root := .ref a
  ok := fun K F H v => v = .ref a ∧ ∃ kvs, H a = some (dk.ho kvs) ∧ DRel i K F kvs l
  stay := fun s k ⟨e, vs, h, p⟩ => ⟨e, vs, k a (List.mem_singleton.mpr rfl) _ h, Paired.mapP p fun _ _ q => ⟨q.1, i.mono s q.2⟩⟩
  there := fun ⟨_, vs, h, _⟩ b hb z => by rw [List.mem_singleton.mp hb, h] at z; cases z
  rt := fun h => h.1
theorem frozD {a : Addr} {l : List (κ × α)} : Froz (ownD κ i a l) (Dic.mk l) := fun {K F H v} s ⟨e, vs, h, p⟩ f => ⟨a, vs, e, (frz_in (ps := [a]) (List.mem_singleton.mpr rfl)).trans h, Paired.mapP p fun _ _ q => ⟨q.1, i.mono (frz_le f) q.2⟩⟩
variable {X : Cx} {Γ : List Slot} {pos p p2 : Pos} {e a b c : Expr} {es : List Expr} {E : SE} {rest : List Stmt}
theorem exo_dict (κ : Type) {α : Type} [ik : Rep κ] [DecidableEq κ] [dk : DKey κ] (i : Rep α) : EX X Γ (.Dict [] [] pos) (fun r => r = .own fun o => ∃ a, o = ownD κ i a []) := fun B F H σ Q L q =>
  WE.of (dk.empty X pos) fun p hp => q _ (.ref p) F _ rfl (Ext.apart L.same hp) ⟨ownD κ i p [], ⟨p, rfl⟩, fun b hb => by rw [List.mem_singleton.mp hb]; exact ⟨hp, L.same.free hp⟩, rfl, [], upd_same, .nil⟩
theorem st_setD (κ : Type) {α : Type} [ik : Rep κ] [DecidableEq κ] [dk : DKey κ] (i : Rep α) (k : Nat) {n : Str} {p3 spos : Pos} (hr : ∀ ad, ST X rest (Γ.set k (.own (ownD κ i ad []))) E) (hN : X.N.Nodup) (hi : autoParam (X.N[k]? = some n) aRfl) (hx : autoParam (L2.Loc X.env.scope n) aLoc)
    (hs : autoParam (swapsWith (.Dict [] [] pos) (some (.Name n p3)) spos.line X.env = pure false) aRfl) (hf : autoParam (X.fn n = true ∨ X.env.scope.names.lookup n = some .local) Tw.aFn) : ST X (.Assign [.Name n p3] (.Dict [] [] pos) spos :: rest) Γ E :=
  st_setO k (exo_dict κ i) (fun o ⟨ad, e⟩ => e ▸ hr ad) hN hi hx hs hf
theorem ev_dget {k : Nat} (hr : Room k X.A) {l : Dic κ α} {x : κ} {y : α} (ha : EV X Γ a l) (hb : EV X Γ b x) (hy : look l.l x = some y) (hp : autoParam (NoSl b) Tw.aIR2) : EV X Γ (.Subscript a b pos) y := fun B F H σ Q L q =>
  WE.of (pe_dget (by have := hr.units; omega) peW peW hp) (ha B F H σ _ L fun v F1 H1 e1 r1 => hb B F1 H1 σ _ (L.step e1) fun u F2 H2 e2 r2 => by
    obtain ⟨ad, kvs, rfl, h1, pr⟩ := r1
    obtain ⟨w, hw, rw'⟩ := (DRel.val pr).2 y hy
    have s2 := (L.step (e1.trans e2)).same
    refine ⟨ad, w, rfl, ?_, q w F2 H2 (e1.trans e2) (i.mono e2.ff rw')⟩
    rw [← hw]
    exact dk.get s2 (s2 _ _ (e2.ff _ _ h1)) r2)
theorem din_at {l : Dic κ α} {x : κ} {K : PySem.W.Frag} {F H : Hp} {v u : V} (s : Same F H) (r1 : repDic.rp K F v l) (r2 : ik.rp K F u x) : ∃ ad o, v = .ref ad ∧ DGet H ad u o ∧ o.isSome = (look l.l x).isSome := by
  obtain ⟨ad, kvs, rfl, h1, pr⟩ := r1
  refine ⟨ad, _, rfl, dk.get s (s _ _ h1) r2, ?_⟩
  cases hy : look l.l x with
  | none => rw [(DRel.val pr).1 hy]; rfl
  | some y => obtain ⟨w, hw, _⟩ := (DRel.val pr).2 y hy; rw [hw]; rfl
theorem et_dnotin {k : Nat} (hr : Room k X.A) {l : Dic κ α} {x : κ} (hb : EV X Γ b x) (ha : EV X Γ a l) (hm : behindInMarks .NotIn a = false := by first | exact nomark _ | rfl) : ET X Γ (.Compare b [.NotIn] [a] pos) (!(look l.l x).isSome) := fun B F H σ Q L q =>
  WT.of (pt_cmp (pc_dnotin (by have := hr.units; omega) peW peW) hm) (hb B F H σ _ L fun u F1 H1 e1 r1 => ha B F1 H1 σ _ (L.step e1) fun v F2 H2 e2 r2 => by
    obtain ⟨ad, o, rfl, g, eo⟩ := din_at (L.step (e1.trans e2)).same r2 (ik.mono e2.ff r1)
    exact ⟨ad, o, rfl, g, _, rfl, by rw [eo]; exact q F2 H2 (e1.trans e2)⟩)
theorem st_dput {k : Nat} (hr0 : Room k X.A) (m : Nat) {n : Str} {ad : Addr} {l : List (κ × α)} {x : κ} {y : α} {sp : Pos} (he : EV X Γ e y) (hi : EV X Γ a x) (hz : l.length < sizeLine) (hr : ST X rest (Γ.set m (.own (ownD κ i ad (put l x y)))) E) (hgm : autoParam (Γ[m]? = some (.own (ownD κ i ad l))) aRfl) (hN : autoParam (X.N[m]? = some n) aRfl)
    (hv : autoParam (Vis X.env.scope n) aVis) (hdd : autoParam ((n == ("__debug__" : Str)) = false) aDec) (hcd : autoParam ((n == ("__classdict__" : Str)) = false) aDec)
    (hs : autoParam (swapsWith e (some (.Subscript (.Name n p) a sp)) pos.line X.env = pure false) aRfl) :
    ST X (.Assign [.Subscript (.Name n p) a sp] e pos :: rest) Γ E := fun B F H σ D L ed => by
  obtain ⟨v0, ea, ⟨rfl, _⟩, _⟩ := slot_own L hgm
  refine WP.cons (ps_dput (by have := hr0.units; omega) (pe_var hN hv hdd hcd) peW peW hs) (he B F H σ _ L fun v F1 H1 e1 r1 => ⟨_, ea, hi B F1 H1 σ _ (L.step e1) fun u F2 H2 e2 r2 => ?_⟩)
  have L2 := L.step (e1.trans e2)
  obtain ⟨v2, ev2, ⟨_, kvs, ha, pr⟩, _⟩ := slot_own L2 hgm
  have hl : kvs.length < sizeLine := by rw [Paired.length pr]; exact hz
  refine ⟨ad, _, rfl, dk.put L2.same ha r2 hl, hr B F2 _ σ D (L2.updO hgm ea (fun b w hb q => ?_) (fun b hb => ?_) (fun b hb => .inl hb) ⟨rfl, _, upd_same, DRel.put pr (i.mono e2.ff r1)⟩) (ed.weak (e1.trans e2).ff)⟩
  · rw [upd_ne fun z => hb (List.mem_singleton.mpr z)]; exact q
  · rw [List.mem_singleton.mp hb, upd_same]; exact fun z => nomatch z
end
section
variable {X : Cx} {Γ : List Slot} {α : Type} {i : Rep α} {pos p p2 : Pos} {e a b c : Expr} {es : List Expr} {E : SE} {rest : List Stmt}
class FlatV (α : Type) [i : Rep α] : Prop where
  fl : ∀ {K F v x}, i.rp K F v x → flatB v = true
  inj : ∀ {K F F' v w} {x : α}, i.rp K F v x → i.rp K F' w x → v = w
noncomputable instance : FlatV Tx := ⟨fun {_ _ v x} h => by obtain rfl : v = .str (sx x) := h; rfl, fun {_ _ _ v w x} h1 h2 => by obtain rfl : v = .str (sx x) := h1; obtain rfl : w = .str (sx x) := h2; rfl⟩
noncomputable instance : FlatV Int := ⟨fun {_ _ v x} h => by obtain rfl : v = .int x := h; rfl, fun {_ _ _ v w x} h1 h2 => by obtain rfl : v = .int x := h1; obtain rfl : w = .int x := h2; rfl⟩
end
end Tw
namespace Tw
open PySem PySem.Spec PyProof.Rows L2 TL
class HetT (α : Type) where
  els : α → List Slot
noncomputable instance (priority := low) repHetT {α : Type} [t : HetT α] : Rep α := ⟨fun K F v x => ∃ a vs, v = .ref a ∧ F a = some (.tup vs) ∧ HetOk K F vs (t.els x), fun s ⟨a, vs, e, h, r⟩ => ⟨a, vs, e, s _ _ h, r.mono s⟩⟩
section
variable {X : Cx} {Γ : List Slot} {α β γ δ : Type} {i : Rep α} {j : Rep β} {l : Rep γ} {pos p p2 : Pos} {e a b c : Expr} {es : List Expr} {E : SE} {rest body : List Stmt}
theorem st_unpack2 (k1 k2 : Nat) {n1 n2 : Str} {x : α × β} {q1 q2 tp : Pos} {kk} (he : EV X Γ e x) (hr : ST X rest ((Γ.set k1 (.val i x.1)).set k2 (.val j x.2)) E)
    (hg : PG X (.Tuple [.Name n1 q1, .Name n2 q2] kk tp) (gTup X.K 2 (gCons (gName k1) (gCons (gName k2) gNil))))
    (hs : autoParam (swapsWithSole [.Tuple [.Name n1 q1, .Name n2 q2] kk tp] e pos.line X.env = pure false) aRfl) (hw : autoParam (swappedStores [.Tuple [.Name n1 q1, .Name n2 q2] kk tp] e X.env = pure none) aRfl)
    (h1 : autoParam ((assignEach [.Tuple [.Name n1 q1, .Name n2 q2] kk tp] X.env).map (·.2) = [assign (.Tuple [.Name n1 q1, .Name n2 q2] kk tp) X.env]) aRfl) :
    ST X (.Assign [.Tuple [.Name n1 q1, .Name n2 q2] kk tp] e pos :: rest) Γ E := fun B F H σ D L ed =>
  WP.cons (ps_asg peW hg hs hw h1) (he B F H σ _ L fun v F1 H1 e1 r1 => by
    obtain ⟨ad, v1, v2, rfl, ha, p1, p2⟩ := r1
    have L1 := L.step e1
    exact ⟨ad, _, rfl, st_of L1.same ha, rfl, v1, _, rfl, v2, _, rfl, rfl, hr B F1 H1 _ D ((L1.putV k1 p1).putV k2 p2) (ed.weak e1.ff)⟩)
theorem exx_imp {P P' : Ret → Prop} {R R' : Exn → Prop} (h : EXX X Γ e P R) (f : ∀ r, P r → P' r) (g : ∀ y, R y → R' y) : EXX X Γ e P' R' := fun B F H σ Q L q z => h B F H σ Q L (fun r v F' H' hp => q r v F' H' (f r hp)) (fun y u d F' H' hy => z y u d F' H' (g y hy))
end
end Tw
namespace Tw
open PySem PySem.Spec PyProof.Rows L2 TL
theorem cnt_nodup (xs : List Str) : ∀ i, i ≤ xs.length → (SetS.cnt xs i = i ↔ (xs.take i).Nodup)
  | 0, _ => by simp [SetS.cnt]
  | i + 1, hi => by
    have ih := cnt_nodup xs i (by omega)
    have le := SetS.cnt_le xs i
    have e : xs.take (i + 1) = xs.take i ++ [xs.getD i Str.empty] := by
      rw [List.take_succ, List.getElem?_eq_getElem (by omega), List.getD_eq_getElem?_getD, List.getElem?_eq_getElem (by omega)]
      rfl
    rw [e, List.nodup_append]
    unfold SetS.cnt
    have hm : (xs.take i).any (· == xs.getD i Str.empty) = true ↔ xs.getD i Str.empty ∈ xs.take i := by
      rw [List.any_eq_true]
      exact ⟨fun ⟨z, h1, h2⟩ => (beq_iff_eq.mp h2) ▸ h1, fun h => ⟨_, h, by simp⟩⟩
    split
    · rename_i h
      refine ⟨fun z => by omega, fun ⟨_, _, z⟩ => ?_⟩
      exact absurd rfl (z _ (hm.mp h) _ (List.mem_singleton.mpr rfl))
    · rename_i h
      have h' := fun z => h (hm.mpr z)
      rw [Nat.add_right_cancel_iff, ih]
      refine ⟨fun z => ⟨z, by simp, fun a ha b hb q => ?_⟩, fun z => z.1⟩
      rw [List.mem_singleton.mp hb] at q
      exact h' (q ▸ ha)
noncomputable def unlike (x : Tx) : Nat := SetS.cnt (PyProof.Rows.signs (sx x)) (PyProof.Rows.signs (sx x)).length
theorem signs_sx (x : Tx) : PyProof.Rows.signs (sx x) = x.map fun c => ⟨#[c]⟩ := by
  unfold PyProof.Rows.signs sx
  simp
theorem unlike_nodup (x : Tx) : unlike x = x.length ↔ x.Nodup := by
  have h := cnt_nodup (PyProof.Rows.signs (sx x)) (PyProof.Rows.signs (sx x)).length (Nat.le_refl _)
  have l : (PyProof.Rows.signs (sx x)).length = x.length := by rw [signs_sx, List.length_map]
  unfold unlike
  rw [List.take_length] at h
  rw [l] at h ⊢
  rw [h, signs_sx]
  have inj : ∀ a b : Nat, (⟨#[a]⟩ : Str) = ⟨#[b]⟩ → a = b := fun a b e => by simpa using e
  constructor
  · intro q
    exact (List.pairwise_map.mp q).imp fun {a b} n e => n (by rw [e])
  · intro q
    exact List.pairwise_map.mpr (q.imp fun {a b} n e => n (inj a b e))
section
variable {X : Cx} {Γ : List Slot} {α β γ : Type} {i : Rep α} {j : Rep β} {pos p p2 : Pos} {e a b c : Expr} {es : List Expr} {E : SE} {rest body : List Stmt}
theorem ev_lenSet {x : Tx} {q0 : Pos} (m1 : X.mg "len" = none) (m2 : X.mg "set" = none) (h : EV X Γ e x) (hz : x.length < 4000) (g1 : autoParam (Gl X "len") aRfl) (g2 : autoParam (Gl X "set") aRfl) (hc : autoParam (X.calm = true) aRfl) (hs : autoParam (starEach [e] X.env = (false, eval e X.env) :: starEach [] X.env) aStar) :
    EV X Γ (.Call (.Name "len" p) [.Call (.Name "set" p2) [e] [] q0] [] pos) ((unlike x : Nat) : Int) := fun B F H σ Q L q =>
  WE.of (pe_lenSetS hc g1 m1 g2 m2 peW hs) (h B F H σ _ L fun v F1 H1 e1 r1 => by
    obtain rfl : v = .str (sx x) := r1
    exact ⟨sx x, rfl, by rw [sx_len]; unfold scanBound; omega, q _ F1 H1 e1 rfl⟩)
theorem st_extend (k : Nat) {n : Str} {ad : Addr} {xs ys : List α} {apos cpos : Pos} (he : EN X Γ e ys) (hr : ST X rest (Γ.set k (.lst i ad (xs ++ ys))) E) (hz : xs.length + ys.length ≤ sizeLine) (hg : autoParam (Γ[k]? = some (.lst i ad xs)) aRfl) (hN : autoParam (X.N[k]? = some n) aRfl)
    (hv : autoParam (Vis X.env.scope n) aVis) (hd : autoParam ((n == ("__debug__" : Str)) = false) aDec) (hcd : autoParam ((n == ("__classdict__" : Str)) = false) aDec)
    (hbase : autoParam (attributeBase (.Name n p) "extend" X.env (eval (.Name n p) X.env) = eval (.Name n p) X.env) aRfl)
    (hfew : autoParam (((backTo cpos (starEach [e] X.env)).all (fun x => !x.1) && (backToKw cpos (keywordEach [] X.env)).all (fun x => x.1.isSome) && decide ([e].length + ([] : List Keyword).length + (if ([] : List Keyword).isEmpty then 0 else 1) < 30)) = true) aRfl)
    (hline : autoParam ((apos.endLine == cpos.line) = true) aRfl) (hs : autoParam (starEach [e] X.env = (false, eval e X.env) :: starEach [] X.env) aStar) (hplain : autoParam ((backTo cpos (starEach [] X.env)).any (·.1) = false) aRfl)
    (hsw : autoParam (swapsWith (.Call (.Attribute (.Name n p) "extend" apos) [e] [] cpos) none pos.line X.env = pure false) aRfl) :
    ST X (.Expr (.Call (.Attribute (.Name n p) "extend" apos) [e] [] cpos) pos :: rest) Γ E := fun B F H σ D L ed => by
  obtain ⟨vs, ea, fa, ba, ha, pr⟩ := slot_lst L hg
  refine WP.cons (ps_expr (pe_bm PySem.F.plainAttrs_list PySem.F.slot_list_extend PySem.F.type_list_extend mt_extend (pe_var hN hv hd hcd) (pa_cons peW pa_nil hs) hbase hfew hline hs hplain) hsw) ?_
  refine ⟨_, ea, .inl ⟨rfl, _, .inl (.inl ha)⟩, he B F H σ _ L fun ad2 vs2 F1 H1 e1 h2 f2 h2' pr2 => ?_⟩
  have L1 := L.step e1
  obtain ⟨vs1, _, _, _, ha1, pr1⟩ := slot_lst L1 hg
  refine ⟨ad, ad2, vs1, vs2, rfl, rfl, ha1, h2', by rw [Paired.length pr1, Paired.length pr2]; exact hz, ?_⟩
  exact hr B F1 _ σ D (L1.updL hg (papp pr1 pr2)) (ed.weak e1.ff)
end
end Tw
namespace Tw
open PySem PySem.Spec PyProof.Rows L2 TL
end Tw
namespace Tw
open PySem PySem.Spec PyProof.Rows L2 TL
section
variable {X : Cx} {Γ : List Slot} {α β γ : Type} {i : Rep α} {j : Rep β} {pos p p2 : Pos} {e a b c : Expr} {es : List Expr} {E : SE} {rest body : List Stmt}
theorem ev_intB {x : Bool} (hm : X.mg "int" = none) (h : EV X Γ e x) (hg : autoParam (Gl X "int") aRfl) (hs : autoParam (starEach [e] X.env = (false, eval e X.env) :: starEach [] X.env) aStar) (hpl : autoParam ((backTo pos (starEach [] X.env)).any (·.1) = false) aPl) :
    EV X Γ (.Call (.Name "int" p) [e] [] pos) (if x then (1 : Int) else 0) :=
  ev_callT1 call_int1 hm (by decide +kernel) h (fun F H v Q s r q => by
    obtain rfl : v = .bl x := r
    exact .inr ⟨x, rfl, q _ F H (Ext.refl s) rfl⟩) hg (by decide) (by decide) hs hpl
end
end Tw
namespace Tw
open PySem PySem.Spec PyProof.Rows L2 TL
set_option genInjectivity true in
inductive Dy where
  | i (n : Int)
  | s (x : Tx)
  | n
  | t (xs : List Dy)
  | l (xs : List Dy)
mutual
noncomputable def rpD (F : Hp) : Dy → V → Prop
  | .i n, v => v = .int n
  | .s x, v => v = .str (sx x)
  | .n, v => v = .non
  | .t xs, v => ∃ a vs, v = .ref a ∧ F a = some (.tup vs) ∧ rpDs F xs vs
  | .l xs, v => ∃ a vs, v = .ref a ∧ F a = some (.lst vs) ∧ rpDs F xs vs
noncomputable def rpDs (F : Hp) : List Dy → List V → Prop
  | [], vs => vs = []
  | x :: xs, vs => ∃ v ws, vs = v :: ws ∧ rpD F x v ∧ rpDs F xs ws
end
mutual
theorem rpD_mono {F F' : Hp} (h : Same F F') : ∀ (x : Dy) (v : V), rpD F x v → rpD F' x v
  | .i n, v, r => by rw [rpD] at r ⊢; exact r
  | .s x, v, r => by rw [rpD] at r ⊢; exact r
  | .n, v, r => by rw [rpD] at r ⊢; exact r
  | .t xs, v, r => by
    rw [rpD] at r ⊢
    obtain ⟨a, vs, e, h1, h2⟩ := r
    exact ⟨a, vs, e, h _ _ h1, rpDs_mono h xs vs h2⟩
  | .l xs, v, r => by
    rw [rpD] at r ⊢
    obtain ⟨a, vs, e, h1, h2⟩ := r
    exact ⟨a, vs, e, h _ _ h1, rpDs_mono h xs vs h2⟩
theorem rpDs_mono {F F' : Hp} (h : Same F F') : ∀ (xs : List Dy) (vs : List V), rpDs F xs vs → rpDs F' xs vs
  | [], vs, r => by rw [rpDs] at r ⊢; exact r
  | x :: xs, vs, r => by
    rw [rpDs] at r ⊢
    obtain ⟨v, ws, e, h1, h2⟩ := r
    exact ⟨v, ws, e, rpD_mono h x v h1, rpDs_mono h xs ws h2⟩
end
noncomputable instance repDy : Rep Dy := ⟨fun _ F v x => rpD F x v, fun s h => rpD_mono s _ _ h⟩
theorem rpDs_iff {α : Type} [i : Rep α] {K : PySem.W.Frag} {F : Hp} {d : α → Dy} (hd : ∀ v x, i.rp K F v x ↔ rpD F (d x) v) : ∀ (xs : List α) (vs : List V), Paired (fun u x => i.rp K F u x) vs xs ↔ rpDs F (xs.map d) vs
  | [], vs => by
    rw [List.map_nil, rpDs]
    exact ⟨fun h => by cases h; rfl, fun h => by subst h; exact .nil⟩
  | x :: xs, vs => by
    rw [List.map_cons, rpDs]
    constructor
    · intro h
      cases h with
      | cons r t => exact ⟨_, _, rfl, (hd _ _).mp r, (rpDs_iff hd xs _).mp t⟩
    · rintro ⟨v, ws, rfl, r, t⟩
      exact .cons ((hd _ _).mpr r) ((rpDs_iff hd xs _).mpr t)
class IsD (α : Type) [i : Rep α] where
  d : α → Dy
  iff : ∀ {K : PySem.W.Frag} {F : Hp} {v : V} {x : α}, i.rp K F v x ↔ rpD F (d x) v
noncomputable instance isdDy : IsD Dy := ⟨fun x => x, Iff.rfl⟩
noncomputable instance isdInt : IsD Int := ⟨.i, by intro K F v x; rw [rpD]; exact Iff.rfl⟩
noncomputable instance isdTx : IsD (List Nat) := ⟨.s, by intro K F v x; rw [rpD]; exact Iff.rfl⟩
noncomputable instance isdUnit : IsD Unit := ⟨fun _ => .n, by intro K F v x; rw [rpD]; exact Iff.rfl⟩
noncomputable instance isdList {α : Type} [i : Rep α] [h : IsD α] : IsD (List α) := ⟨fun xs => .l (xs.map h.d), by
  intro K F v xs
  rw [rpD]
  constructor
  · rintro ⟨a, vs, e, h1, p⟩
    exact ⟨a, vs, e, h1, (rpDs_iff (K := K) (fun v x => h.iff) xs vs).mp p⟩
  · rintro ⟨a, vs, e, h1, p⟩
    exact ⟨a, vs, e, h1, (rpDs_iff (K := K) (fun v x => h.iff) xs vs).mpr p⟩⟩
noncomputable instance isdTup {α : Type} [i : Rep α] [h : IsD α] : IsD (Tup α) := ⟨fun xs => .t (xs.l.map h.d), by
  intro K F v xs
  rw [rpD]
  constructor
  · rintro ⟨a, vs, e, h1, p⟩
    exact ⟨a, vs, e, h1, (rpDs_iff (K := K) (fun v x => h.iff) xs.l vs).mp p⟩
  · rintro ⟨a, vs, e, h1, p⟩
    exact ⟨a, vs, e, h1, (rpDs_iff (K := K) (fun v x => h.iff) xs.l vs).mpr p⟩⟩
noncomputable instance isdPair {α β : Type} [i : Rep α] [j : Rep β] [h : IsD α] [h2 : IsD β] : IsD (α × β) := ⟨fun x => .t [h.d x.1, h2.d x.2], by
  intro K F v x
  rw [rpD]
  constructor
  · rintro ⟨a, u, w, e, h1, p, q⟩
    refine ⟨a, _, e, h1, ?_⟩
    rw [rpDs]
    refine ⟨u, _, rfl, h.iff.mp p, ?_⟩
    rw [rpDs]
    exact ⟨w, _, rfl, h2.iff.mp q, by rw [rpDs]⟩
  · rintro ⟨a, vs, e, h1, p⟩
    rw [rpDs] at p
    obtain ⟨u, ws, rfl, p, q⟩ := p
    rw [rpDs] at q
    obtain ⟨w, ws, rfl, q, r⟩ := q
    rw [rpDs] at r
    subst r
    exact ⟨a, u, w, e, h1, h.iff.mpr p, h2.iff.mpr q⟩⟩
@[reducible] noncomputable def repOfD {α : Type} (d : α → Dy) : Rep α := ⟨fun _ F v x => rpD F (d x) v, fun s h => rpD_mono s _ _ h⟩
section
variable {X : Cx} {Γ : List Slot} {α β γ : Type} {i : Rep α} {j : Rep β} {l : Rep γ} {pos p p2 : Pos} {e a b c elt tg it : Expr} {es : List Expr} {E : SE} {rest body : List Stmt}
theorem ev_conv {x : α} {y : β} (h : EV X Γ e x) (f : ∀ K F v, i.rp K F v x → j.rp K F v y) : EV X Γ e y := fun B F H σ Q L q => h B F H σ Q L fun v F' H' ex r => q v F' H' ex (f _ _ _ r)
theorem ev_d {x : α} [h : IsD α] (he : EV X Γ e x) : EV X Γ e (h.d x) := ev_conv he fun _ _ _ r => h.iff.mp r
theorem ev_u {x : α} {y : Dy} [h : IsD α] (he : EV X Γ e y) (q : autoParam (y = h.d x) aRfl) : EV X Γ e x := ev_conv he fun _ _ _ r => by subst q; exact h.iff.mpr r
theorem ev_t {xs : List Dy} (he : EV X Γ e (Dy.t xs)) : EV X Γ e (Tup.mk xs) := ev_conv he fun K F v r => (isdTup (α := Dy)).iff.mpr (by show rpD F (.t (xs.map fun x => x)) v; rw [List.map_id']; exact r)
theorem ev_ot {xs : List Dy} (he : EV X Γ e (Tup.mk xs)) : EV X Γ e (Dy.t xs) := ev_conv he fun K F v r => by
  have := (isdTup (α := Dy)).iff.mp r
  have h : rpD F (.t (xs.map fun x => x)) v := this
  rw [List.map_id'] at h
  exact h
theorem ev_catT {xs ys : Tup α} (ha : EV X Γ a xs) (hb : EV X Γ b ys) (hne : xs.l ≠ []) (hz : xs.l.length + ys.l.length ≤ sizeLine) : EV X Γ (.BinOp a .Add b pos) (Tup.mk (xs.l ++ ys.l)) := fun B F H σ Q L q =>
  WE.of (pe_op op_catT peW peW) (ha B F H σ _ L fun v F1 H1 e1 r1 => hb B F1 H1 σ _ (L.step e1) fun u F2 H2 e2 r2 => by
    obtain ⟨a1, vs, rfl, h1, p1⟩ := r1
    obtain ⟨a2, ws, rfl, h2, p2⟩ := r2
    have e12 := e1.trans e2
    have s2 := (L.step e12).same
    have p1' := Paired.mapP p1 fun _ _ z => i.mono e2.ff z
    refine ⟨a1, a2, vs, ws, rfl, rfl, st_of s2 (e2.ff _ _ h1), st_of s2 h2, ?_, by rw [Paired.length p1, Paired.length p2]; exact hz, fun hw => ?_, fun hw p hp => ?_⟩
    · intro z
      subst z
      cases xs with
      | mk l => cases l with
        | nil => exact hne rfl
        | cons _ _ => cases p1
    · subst hw
      have : ys.l = [] := by
        cases ys with
        | mk l => cases l with
          | nil => rfl
          | cons _ _ => cases p2
      refine q _ F2 H2 e12 ?_
      show repTup.rp X.K F2 (V.ref a1) (Tup.mk (xs.l ++ ys.l))
      rw [this, List.append_nil]
      exact ⟨a1, vs, rfl, e2.ff _ _ h1, p1'⟩
    · have ea := Ext.new (o := .tup (vs ++ ws)) s2 hp
      exact q (.ref p) _ _ (e12.trans ea) ⟨p, _, rfl, upd_same, Paired.mapP (papp p1' p2) fun _ _ z => i.mono ea.ff z⟩)
theorem ev_sliceT {lo hi : Option Expr} {o1 o2 : Option Int} {xs : Tup α} (ha : EV X Γ a xs) (hl : EO X Γ lo o1) (hh : EO X Γ hi o2) (hw : ¬ (HT.sIx xs.l.length 0 o1 = 0 ∧ HT.sIx xs.l.length xs.l.length o2 = xs.l.length)) : EV X Γ (.Subscript a (.Slice lo hi none p2) pos) (Tup.mk (cutL xs.l o1 o2)) := fun B F H σ Q L q =>
  WE.of (pe_slice sl_tup peW (poW (Γ := Γ)) (poW (Γ := Γ))) (ha B F H σ _ L fun v F1 H1 e1 r1 => eo_run hl (L.step e1) fun F2 H2 e2 => eo_run hh (L.step (e1.trans e2)) fun F3 H3 e3 => by
    obtain ⟨ad, vs, rfl, h1, pr⟩ := r1
    have e123 := (e1.trans e2).trans e3
    have s3 := (L.step e123).same
    have e23 := e2.trans e3
    refine ⟨ad, vs, rfl, st_of s3 (e23.ff _ _ h1), by rw [Paired.length pr]; exact hw, fun p hp => ?_⟩
    have ea := Ext.new (o := .tup (cutV vs o1 o2)) s3 hp
    refine q (.ref p) _ _ (e123.trans ea) ⟨p, _, rfl, upd_same, ?_⟩
    have e5 := (e23.trans ea).ff
    have key : Paired (fun u x => i.rp X.K (upd F3 p (.tup (cutV vs o1 o2))) u x) (cutV vs o1 o2) (cutL xs.l o1 o2) := by
      have h2 := Paired.mapP pr fun _ _ z => i.mono e5 z
      generalize upd F3 p (.tup (cutV vs o1 o2)) = G at h2 ⊢
      unfold cutV cutL
      rw [Paired.length pr]
      exact ptake _ (pdrop _ h2)
    exact key)
theorem cutL_from {A : Type} {xs : List A} (k : Nat) : cutL xs (some (k : Int)) none = xs.drop k := by
  unfold cutL
  rw [HT.sIx_nat]
  show (xs.drop (min k xs.length)).take (xs.length - min k xs.length) = _
  rw [List.take_of_length_le (by rw [List.length_drop]; exact Nat.le_refl _)]
  by_cases h : k ≤ xs.length
  · rw [Nat.min_eq_left h]
  · rw [Nat.min_eq_right (by omega), List.drop_length, List.drop_eq_nil_of_le (by omega)]
theorem cutL_to {A : Type} {xs : List A} (k : Nat) : cutL xs none (some (k : Int)) = xs.take k := by
  unfold cutL
  rw [HT.sIx_nat]
  show (xs.drop 0).take (min k xs.length - 0) = _
  rw [List.drop_zero, Nat.sub_zero]
  by_cases h : k ≤ xs.length
  · rw [Nat.min_eq_left h]
  · rw [Nat.min_eq_right (by omega), List.take_length, List.take_of_length_le (by omega)]
theorem whole_no {n : Nat} (k : Nat) (o : Option Int) (h1 : 0 < k) (h2 : 0 < n) : ¬ (HT.sIx n 0 (some (k : Int)) = 0 ∧ HT.sIx n n o = n) := by
  rw [HT.sIx_nat]
  omega
theorem ev_tupL {xs : List α} (hm : X.mg "tuple" = none) (h : EV X Γ e xs) (hg : autoParam (Gl X "tuple") aRfl) (hs : autoParam (starEach [e] X.env = (false, eval e X.env) :: starEach [] X.env) aStar) (hpl : autoParam ((backTo pos (starEach [] X.env)).any (·.1) = false) aPl) :
    EV X Γ (.Call (.Name "tuple" p) [e] [] pos) (Tup.mk xs) := fun B F H σ Q L q =>
  WE.of (pe_callTy call_tuple_of hg hm (by decide +kernel) (pa_cons peW pa_nil hs) (by decide) (by decide) hs hpl) (h B F H σ _ L fun v F1 H1 e1 r1 => by
    obtain ⟨ad, vs, rfl, ha, pr⟩ := r1
    have s1 := (L.step e1).same
    exact ⟨ad, vs, rfl, .inl ⟨sq_of s1 ha, fun q' hq => by
      have ea := Ext.new (o := .tup vs) s1 hq
      exact q (.ref q') _ _ (e1.trans ea) ⟨q', vs, rfl, upd_same, Paired.mapP pr fun _ _ z => i.mono ea.ff z⟩⟩⟩)
theorem ED.same {B : Bs} {F0 F1 : Hp} {D : Ends} (ed : ED X B F0 E D) (s : Same F0 F1) : ED X B F1 E D := ed.weak s
theorem st_while (P : Nat → List Slot → Prop) (m0 : Nat) (h0 : P m0 Γ)
    (hb : ∀ m Γ', P m Γ' → ∃ k : Bool, ET X Γ' c k ∧ (k = true → ST X body Γ' { nx := fun Γ2 => ∃ m', m' < m ∧ P m' Γ2, ct := fun Γ2 => ∃ m', m' < m ∧ P m' Γ2, bk := fun Γ2 => ST X rest Γ2 E, rt := E.rt, ex := E.ex }) ∧ (k = false → ST X rest Γ' E))
    (hp : autoParam (PassesOwn (model X.prog X.w) X.A X.env X.xe) Tw.aPass) :
    ST X (.While c body [] pos :: rest) Γ E := fun B F H σ D L ed => by
  refine WP.cons (ps_while hp ptW psW) ?_
  refine ⟨fun m σ H => ∃ F2 Γ', P m Γ' ∧ Same F F2 ∧ Lc X.K B F2 H σ Γ', ⟨m0, F, Γ, h0, Same.refl _, L⟩, ?_⟩
  rintro m σ H ⟨F2, Γ', hP, s12, L2⟩
  obtain ⟨k, hc, ht, hf⟩ := hb m Γ' hP
  refine hc B F2 H σ _ L2 fun F3 H3 e3 => ?_
  cases k with
  | true =>
    rw [if_pos rfl]
    refine ⟨fun σ' H' => ∃ m', m' < m ∧ ∃ F4 Γ4, P m' Γ4 ∧ Same F F4 ∧ Lc X.K B F4 H' σ' Γ4, fun σ' H' ⟨m', h1, h2⟩ => ⟨m', h1, h2⟩, ?_⟩
    refine ht rfl B F3 H3 σ _ (L2.step e3) ⟨fun F5 H5 σ5 Γ5 s5 ⟨m', h1, h2⟩ L5 => ⟨m', h1, F5, Γ5, h2, s12.trans (e3.ff.trans s5), L5⟩, ed.rt, fun F5 H5 σ5 Γ5 s5 h5 L5 => h5 B F5 H5 σ5 D L5 (ed.weak (s12.trans (e3.ff.trans s5))), fun F5 H5 σ5 Γ5 s5 ⟨m', h1, h2⟩ L5 => ⟨m', h1, F5, Γ5, h2, s12.trans (e3.ff.trans s5), L5⟩, fun F5 H5 σ5 Γ5 x u d s5 h5 L5 => ed.ex F5 H5 σ5 Γ5 x u d (s12.trans (e3.ff.trans s5)) h5 L5⟩
  | false =>
    rw [if_neg (by decide)]
    exact hf rfl B F3 H3 σ D (L2.step e3) (ed.weak (s12.trans e3.ff))
end
end Tw
namespace MaxDf
open PySem PyProof.Rows
theorem maxd_args (a v : Value) : argsOk "max" ⟨[a], [(Str.ofString "default", v)]⟩ := by unfold argsOk; kernel_rfl
section
variable {prog : Program} {w : World} {A : Around} {R : Result → Shared → Prop} {I S : Addr} {fp wr : List Addr} {n : Nat} {P : Nat → Value → Prop} {St : Nat → Heap → Prop} {kw : List (Str × Value)} {bt : Nat → Nat → Bool}
noncomputable def Left (wr : List Addr) (S : Addr) (h h' : Heap) : Prop := ∀ b o, b ∉ wr → b ≠ S → h.get? b = some o → h'.get? b = some o
theorem maxd_name : (toString "max" ++ toString ".loop" : String) = "max.loop" := by decide
theorem Left.upd {h h' : Heap} {f : Obj → Obj} (k : Left wr S h h') : Left wr S h (h'.update S f) := fun b o h1 h2 e => (Heap.get?_update_other _ _ (Ne.symm h2)).trans (k b o h1 h2 e)
theorem maxd_loop (W : Walks prog w A.in1 I fp wr n P St) (hcmp : CmpOf prog w A.in1 .Gt P bt) (hSf : S ∉ fp) : ∀ (k j : Nat) (s : Shared) (vb : Value) (c : Nat), n - (j + 1) = k → j + 1 ≤ n → St (j + 1) s.heap → P (argBest bt j) vb →
    s.heap.get? S = some (seqObj "list" #[vb, vb] c) → (∀ v h' tk, P (argBest bt (n - 1)) v → Left wr S s.heap h' → R (.ok (.ret v)) { s with heap := h', toks := tk }) →
    codeAny (model prog w) A (.builtin "max.loop" ⟨[.ref I, .none, .ref S], kw⟩) R s := fun k => by
  have hSw : S ∉ wr := fun h => hSf (W.sub _ h)
  induction k with
  | zero =>
    intro j s vb c hk hj st hPb hS fin
    have hin : j + 1 = n := by omega
    refine codeAny_builtin PySem.F.entry_max_loop ?_
    rw [Around.under_plainId PySem.F.plain_max_loop _]
    show wpAny _ A.in1 (seqItems? (.ref S) >>= _) _ _ s
    refine wpAny_bind (wpAny_seqItems hS rfl ?_)
    refine wpAny_bind (wpAny_tryCatch (W.done s _ _ (by rw [← hin]; exact st) fun h1 t1 keep => ?_))
    show wpAny (model prog w) A.in1 (updateSeq S (fun _ => #[]) >>= _) _ _ _
    refine wpAny_bind ?_
    refine wpAny_updateSeq (keep S _ hSw hS) rfl (wpAny_bind (wpAny_letGo (wpAny_pure ?_)))
    exact fin vb _ t1 (by rw [← hin]; exact hPb) (Left.upd fun b o h1 _ e => keep b o h1 e)
  | succ k ih =>
    intro j s vb c hk hj st hPb hS fin
    have hlt : j + 1 < n := by omega
    refine codeAny_builtin PySem.F.entry_max_loop ?_
    rw [Around.under_plainId PySem.F.plain_max_loop _]
    show wpAny _ A.in1 (seqItems? (.ref S) >>= _) _ _ s
    refine wpAny_bind (wpAny_seqItems hS rfl ?_)
    refine wpAny_bind (wpAny_tryCatch (W.item (j + 1) s _ _ hlt st fun v h1 t1 hP st1 keep => ?_))
    have hS1 := keep S _ hSw hS
    show wpAny (model prog w) A.in1 (tryCatch (holding [v, v] (richCompare CmpOp.Gt v vb >>= _)) _ >>= _) _ _ _
    refine wpAny_bind (wpAny_tryCatch (wpAny_holding (wpAny_bind (hcmp (j + 1) (argBest bt j) v vb _ _ _ hP hPb ?_))))
    refine wpAny_bind (wpAny_holding (wpAny_truthy_bool (wpAny_bind (wpAny_letGo (wpAny_pure ?_)))))
    cases hb : bt (j + 1) (argBest bt j) with
    | true =>
      simp only [if_true]
      refine wpAny_bind ?_
      refine wpAny_updateSeq hS1 rfl (wpAny_bind (wpAny_letGo ?_))
      rw [maxd_name]
      refine wpAny_pure ⟨plainId_quiet PySem.F.plain_max_loop _, ih (j + 1) _ v _ (by omega) hlt (W.frame _ _ _ st1 fun b hbf o e => ?_) (by simp only [argBest, hb, if_true]; exact hP) (Heap.get?_update_self _ hS1 rfl) fun v2 h2 t2 hP2 k2 => ?_⟩
      · exact (Heap.get?_update_other _ _ (fun z : S = b => hSf (z ▸ hbf))).trans e
      · exact fin v2 h2 t2 hP2 fun b o a1 a2 e => k2 b o a1 a2 ((Heap.get?_update_other _ _ (Ne.symm a2)).trans (keep b o a1 e))
    | false =>
      simp only [Bool.false_eq_true, if_false]
      refine wpAny_bind (wpAny_letGo ?_)
      rw [maxd_name]
      refine wpAny_pure ⟨plainId_quiet PySem.F.plain_max_loop _, ih (j + 1) _ vb c (by omega) hlt st1 (by simp only [argBest, hb, Bool.false_eq_true, if_false]; exact hPb) hS1 fun v2 h2 t2 hP2 k2 => ?_⟩
      exact fin v2 h2 t2 hP2 fun b o a1 a2 e => k2 b o a1 a2 (keep b o a1 e)
theorem maxd_start (W : Walks prog w A.in1 I fp wr n P St) (hcmp : CmpOf prog w A.in1 .Gt P bt) (hSf : S ∉ fp) {d : Value} {s : Shared} {c : Nat} (st : St 0 s.heap) (hS : s.heap.get? S = some (seqObj "list" #[] c))
    (h0 : n = 0 → ∀ h' tk, Left wr S s.heap h' → R (.ok (.ret d)) { s with heap := h', toks := tk }) (hR : 0 < n → ∀ v h' tk, P (argBest bt (n - 1)) v → Left wr S s.heap h' → R (.ok (.ret v)) { s with heap := h', toks := tk }) :
    codeAny (model prog w) A (.builtin "max.loop" ⟨[.ref I, .none, .ref S], [("default", d)]⟩) R s := by
  have hSw : S ∉ wr := fun h => hSf (W.sub _ h)
  refine codeAny_builtin PySem.F.entry_max_loop ?_
  rw [Around.under_plainId PySem.F.plain_max_loop _]
  show wpAny _ A.in1 (seqItems? (.ref S) >>= _) _ _ s
  refine wpAny_bind (wpAny_seqItems hS rfl ?_)
  by_cases hn : 0 < n
  · refine wpAny_bind (wpAny_tryCatch (W.item 0 s _ _ hn st fun v h1 t1 hP st1 keep => ?_))
    have hS1 := keep S _ hSw hS
    show wpAny (model prog w) A.in1 (updateSeq S (fun _ => #[v, v]) >>= _) _ _ _
    refine wpAny_bind ?_
    refine wpAny_updateSeq hS1 rfl ?_
    rw [maxd_name]
    refine wpAny_pure ⟨plainId_quiet PySem.F.plain_max_loop _, maxd_loop W hcmp hSf _ 0 _ v _ rfl hn (W.frame _ _ _ st1 fun b hbf o e => ?_) hP (Heap.get?_update_self _ hS1 rfl) fun v2 h2 t2 hP2 k2 => ?_⟩
    · exact (Heap.get?_update_other _ _ (fun z : S = b => hSf (z ▸ hbf))).trans e
    · exact hR hn v2 h2 t2 hP2 fun b o a1 a2 e => k2 b o a1 a2 ((Heap.get?_update_other _ _ (Ne.symm a2)).trans (keep b o a1 e))
  · have e0 : n = 0 := by omega
    refine wpAny_bind (wpAny_tryCatch (W.done s _ _ (by rw [e0]; exact st) fun h1 t1 keep => ?_))
    show wpAny (model prog w) A.in1 (rule (toString "max" ++ toString ".default") >>= fun _ => ret d) _ _ _
    refine wpAny_bind (wpAny_rule (wpAny_pure ?_))
    exact h0 e0 h1 t1 fun b o a1 _ e => keep b o a1 e
end
section
variable {prog : Program} {w : World} {A : Around} {E : Value → Shared → Prop} {s : Shared} {Q : Value → Shared → Prop} {l : Addr} {xs : Array (Int × Tok)}
theorem maxd_list {d : Value} (hh : A.handled = none) (hl : s.heap.IsList l (intItems xs)) (h0 : xs.size = 0 → ∀ h' tk, (∀ b o, s.heap.get? b = some o → h'.get? b = some o) → Q d { s with heap := h', toks := tk })
    (h : 0 < xs.size → ∀ v h' tk, (intItems xs)[argBest (fun i j => decide (numAt xs i > numAt xs j)) (xs.size - 1)]? = some v → (∀ b o, s.heap.get? b = some o → h'.get? b = some o) → Q v { s with heap := h', toks := tk }) :
    wpAny (model prog w) A (call (.builtin "max") [.ref l] [(Str.ofString "default", d)]) Q E s := by
  refine kmb_tree PySem.F.kind_max PySem.F.plain_max PySem.F.entry_max (maxd_args _ _) ?_
  show wpAny _ A.in1 (Builtin.Builtins.bindParams "max" ["key", "default"] 0 ⟨[], [(Str.ofString "default", d)]⟩ >>= _) _ _ s
  refine wpAny_bind (wpAny_of_eq (show Builtin.Builtins.bindParams "max" ["key", "default"] 0 ⟨[], [(Str.ofString "default", d)]⟩ = pure [none, some d] from rfl) ?_)
  refine wpAny_bind (wpAny_pure ?_)
  refine wpAny_bind (iter_intList hl fun s2 e st hfp hlI => ?_)
  subst e
  refine wpAny_bind (wpAny_newObj_type ?_)
  rw [maxd_name]
  have W := Walks.list (prog := prog) (w := w) (A := A.in1) hh s.heap.objs.size l hlI (intItems xs)
  have hnf : ∀ h : Heap, (∀ b ∈ [s.heap.objs.size, l], b < h.objs.size) → h.objs.size ∉ [s.heap.objs.size, l] := fun h k m => Nat.lt_irrefl _ (k _ m)
  have esz : (intItems xs).size = xs.size := by simp [intItems]
  refine wpAny_pure ⟨plainId_quiet PySem.F.plain_max_loop _, maxd_start (d := d) W (CmpOf.ints_gt (numAt xs) (fun _ _ => intItems_at)) (hnf _ hfp) (W.frame _ _ _ st fun b _ o e => Heap.get?_push_of_some _ e) (Heap.get?_push_size _ rfl) (fun e h1 t1 k1 => ?_) fun e v h1 t1 hP k1 => ?_⟩
  · refine h0 (by rw [← esz]; exact e) h1 t1 (old_kept fun b o hb q => k1 b o hb (Nat.ne_of_lt (Heap.lt_size q)) (Heap.get?_push_of_some _ q))
  · refine h (by rw [← esz]; exact e) v h1 t1 (by rw [← esz]; exact hP) (old_kept fun b o hb q => k1 b o hb (Nat.ne_of_lt (Heap.lt_size q)) (Heap.get?_push_of_some _ q))
end
end MaxDf
namespace Tw
open PySem PySem.Spec PyProof.Rows L2 TL
section
variable {X : Cx} {Γ : List Slot} {α β γ : Type} {i : Rep α} {j : Rep β} {pos p p2 pos2 : Pos} {e a b c elt tg it : Expr} {es : List Expr} {E : SE} {rest body : List Stmt}
noncomputable def bestI (d : Int) : List Int → Int
  | [] => d
  | x :: xs => xs.foldl (fun m y => if y > m then y else m) x
theorem fold_ge : ∀ (xs : List Int) (x : Int), x ≤ xs.foldl (fun m y => if y > m then y else m) x ∧ (∀ y ∈ xs, y ≤ xs.foldl (fun m y => if y > m then y else m) x) ∧ (xs.foldl (fun m y => if y > m then y else m) x = x ∨ xs.foldl (fun m y => if y > m then y else m) x ∈ xs)
  | [], x => ⟨Int.le_refl _, fun _ h => (List.not_mem_nil h).elim, .inl rfl⟩
  | z :: xs, x => by
    obtain ⟨h1, h2, h3⟩ := fold_ge xs (if z > x then z else x)
    rw [List.foldl_cons]
    have hz : z ≤ (if z > x then z else x) ∧ x ≤ (if z > x then z else x) := by split <;> omega
    refine ⟨Int.le_trans hz.2 h1, fun y hy => ?_, ?_⟩
    · rcases List.mem_cons.mp hy with rfl | hy
      · exact Int.le_trans hz.1 h1
      · exact h2 y hy
    · rcases h3 with h3 | h3
      · rw [h3]
        split
        · exact .inr (List.mem_cons_self ..)
        · exact .inl rfl
      · exact .inr (List.mem_cons_of_mem _ h3)
theorem bestI_eq {d m : Int} {ns : List Int} (h : m ∈ ns) (h2 : ∀ y ∈ ns, y ≤ m) : bestI d ns = m := by
  cases ns with
  | nil => cases h
  | cons x xs =>
    obtain ⟨h3, h4, h5⟩ := fold_ge xs x
    have a1 : m ≤ bestI d (x :: xs) := by
      rcases List.mem_cons.mp h with rfl | h
      · exact h3
      · exact h4 m h
    have a2 : bestI d (x :: xs) ≤ m := by
      rcases h5 with h5 | h5
      · show xs.foldl _ x ≤ m
        rw [h5]; exact h2 x (List.mem_cons_self ..)
      · exact h2 _ (List.mem_cons_of_mem _ h5)
    omega
theorem bestI_le {d : Int} {ns : List Int} {c : Int} (h : ∀ y ∈ ns, y ≤ c) (hd : d ≤ c) : bestI d ns ≤ c := by
  cases ns with
  | nil => exact hd
  | cons x xs =>
    obtain ⟨_, _, h5⟩ := fold_ge xs x
    rcases h5 with h5 | h5
    · show xs.foldl _ x ≤ c
      rw [h5]; exact h x (List.mem_cons_self ..)
    · exact h _ (List.mem_cons_of_mem _ h5)
theorem bestI_ge {d : Int} {ns : List Int} {y : Int} (h : y ∈ ns) : y ≤ bestI d ns := by
  cases ns with
  | nil => cases h
  | cons x xs =>
    obtain ⟨h3, h4, _⟩ := fold_ge xs x
    rcases List.mem_cons.mp h with rfl | h
    · exact h3
    · exact h4 y h
noncomputable def rMaxD (K : PySem.W.Frag) (d : Int) : List V → List V → Hp → VK → Prop := fun xs zs H Q => ∃ (a : Addr) (ns : List Int), xs = [V.ref a] ∧ zs = [V.int d] ∧ SqL K H a (ns.map V.int) ∧ Q (.int (bestI d ns)) H
theorem cr_maxD {d : Int} (hc : X.calm = true) : CallRK X (.builtin "max") [Str.ofString "default"] (rMaxD X.K d) := by
  intro pins s σ H xs zs us ws Q I r1 r2 h
  obtain ⟨a, ns, rfl, rfl, hs, q⟩ := h
  obtain ⟨its, rv, hl, _⟩ := I.list hs
  rw [Vals.ref1 r1]
  obtain ⟨t, rfl⟩ : ∃ t, ws = [.int d t] := by
    cases r2 with
    | cons r rest =>
      cases rest
      obtain ⟨t, rfl⟩ := r
      exact ⟨t, rfl⟩
  obtain ⟨xs, e⟩ := rv.ints.allInts.items
  have hn : numsOf (intItems xs).toList = ns := by rw [← e]; exact rv.ints.numsOf
  rw [nums_intItems] at hn
  have hl' := hl.isList
  rw [e] at hl'
  have hlen : ns.length = xs.size := by rw [← hn, List.length_map, Array.length_toList]
  refine MaxDf.maxd_list (I.ok.hd hc) hl' (fun e0 h' tk hk => ?_) fun e0 v h' tk hv hk => ?_
  · have : ns = [] := List.eq_nil_of_length_eq_zero (by omega)
    subst this
    exact ⟨.int _, H, I.kept hk, ⟨_, rfl⟩, q⟩
  · obtain ⟨t2, rfl⟩ := intItems_at hv
    obtain ⟨h1, h2⟩ := argBest_gt (numAt xs) (xs.size - 1)
    refine ⟨.int _, H, I.kept hk, ⟨_, rfl⟩, ?_⟩
    rw [← bestI_eq (d := d) (ns := ns) (m := numAt xs (argBest (fun i j => decide (numAt xs i > numAt xs j)) (xs.size - 1)))]
    · exact q
    · rw [← hn, numAt_eq]; exact PySem.getD_mem (by rw [List.length_map, Array.length_toList]; omega)
    · intro y hy
      rw [← hn] at hy
      obtain ⟨k, hk2, rfl⟩ := mem_getD hy
      rw [List.length_map, Array.length_toList] at hk2
      rw [← numAt_eq]; exact h2 k (by omega)
theorem ev_maxD {ns : List Int} {d : Int} {kp : Pos} (hm : X.mg "max" = none) (h : EV X Γ e ns) (hd : EV X Γ b d) (hc : autoParam (X.calm = true) aRfl) (hg : autoParam (Gl X "max") aRfl) (hs : autoParam (starEach [e] X.env = (false, eval e X.env) :: starEach [] X.env) aStar)
    (he : autoParam (backTo pos (starEach [e] X.env) = (false, eval e X.env) :: backTo pos (starEach [] X.env)) aRfl) (hpl : autoParam ((backTo pos (starEach [e] X.env)).any (·.1) = false) aRfl)
    (hall : autoParam ((backToKw pos (keywordEach [⟨some "default", b, kp⟩] X.env)).all (·.1.isSome) = true) aRfl) (hnone : autoParam ((backToKw pos (keywordEach [⟨some "default", b, kp⟩] X.env)).any (·.1.isNone) = false) aRfl)
    (hks : autoParam ((backToKw pos (keywordEach [⟨some "default", b, kp⟩] X.env)).filterMap (·.1) = [Str.ofString "default"]) aRfl) :
    EV X Γ (.Call (.Name "max" p) [e] [⟨some "default", b, kp⟩] pos) (bestI d ns) := fun B F H σ Q L q =>
  WE.of (pe_callBK (cr_maxD hc) hg hm (by decide +kernel) (pa_cons peW pa_nil hs) (pk_cons peW pk_nil) (by decide) (by decide) he hpl hall hnone hks) (h B F H σ _ L fun v F1 H1 e1 r1 => hd B F1 H1 σ _ (L.step e1) fun u F2 H2 e2 r2 => by
    obtain ⟨ad, vs, rfl, ha, pr⟩ := r1
    obtain rfl : u = .int d := r2
    obtain rfl := Rps.ints pr
    exact ⟨ad, ns, rfl, rfl, sq_of (L.step (e1.trans e2)).same (e2.ff _ _ ha), q _ F2 H2 (e1.trans e2) rfl⟩)
end
end Tw
namespace Tw
open PySem PySem.Spec PyProof.Rows L2 TL
section
variable {X : Cx} {Γ : List Slot} {α β γ : Type} {i : Rep α} {j : Rep β} {pos p p2 pos2 : Pos} {e a b c elt tg it : Expr} {es : List Expr} {E : SE} {rest body : List Stmt}
theorem ev_ixY {x : α} {n : Int} {y : β} {ds : List Dy} [h1 : IsD α] [h2 : IsD β] (ha : EV X Γ a x) (hi : EV X Γ b n) (hd : h1.d x = .t ds) (hk : atI ds n = some (h2.d y)) (hp : autoParam (PlainIx b) Tw.aIR2) : EV X Γ (.Subscript a b pos) y :=
  ev_u (y := h2.d y) (ev_ixT (ev_t (hd ▸ ev_d ha)) hi hk hp)
theorem ev_tt {xs : Tup α} {ys : Tup β} [h1 : IsD α] [h2 : IsD β] (h : EV X Γ e xs) (q : xs.l.map h1.d = ys.l.map h2.d) : EV X Γ e ys := ev_conv h fun K F v r => by
  have a := (isdTup (α := α)).iff.mp r
  exact (isdTup (α := β)).iff.mpr (by show rpD F (.t (ys.l.map h2.d)) v; rw [← q]; exact a)
end
end Tw
namespace Tw
open PySem PySem.Spec PyProof.Rows L2 TL
section
variable {X : Cx} {Γ : List Slot} {α β γ : Type} {i : Rep α} {j : Rep β} {pos p p2 pos2 : Pos} {e a b c elt tg it : Expr} {es : List Expr} {E : SE} {rest body : List Stmt}
theorem WA.no {es : List Expr} {σ : L2.St} {H : Hp} {Q : List V → Hp → Prop} (h : WA X es σ H (fun _ _ => False)) : WA X es σ H Q := ⟨fun pos pins s I => wpAny_mono (h.go pos pins s I) (fun us s1 ⟨vs, H1, I1, r1, hf⟩ => hf.elim) fun _ _ z => z⟩
end
end Tw
namespace Tw
open PySem PySem.Spec PyProof.Rows L2 TL
mutual
noncomputable def Dy.py : Dy → PyData
  | .i z => .int z
  | .s x => .str (sx x)
  | .n => .none
  | .t xs => .tuple (Dy.pys xs)
  | .l xs => .list (Dy.pys xs)
noncomputable def Dy.pys : List Dy → List PyData
  | [] => []
  | x :: xs => x.py :: Dy.pys xs
end
mutual
noncomputable def Dy.okc : Dy → Prop
  | .i _ => True
  | .s x => TxOk x
  | .n => True
  | .t xs => Dy.okcs xs
  | .l xs => Dy.okcs xs
noncomputable def Dy.okcs : List Dy → Prop
  | [] => True
  | x :: xs => x.okc ∧ Dy.okcs xs
end
mutual
noncomputable def Dy.dep : Dy → Nat
  | .i _ => 0
  | .s _ => 0
  | .n => 0
  | .t xs => Dy.deps xs + 1
  | .l xs => Dy.deps xs + 1
noncomputable def Dy.deps : List Dy → Nat
  | [] => 0
  | x :: xs => max x.dep (Dy.deps xs)
end
mutual
theorem Dy.py_dep : ∀ x : Dy, x.py.depth = x.dep
  | .i z => by rw [Dy.py, Dy.dep, PyData.depth]
  | .s x => by rw [Dy.py, Dy.dep, PyData.depth]
  | .n => by rw [Dy.py, Dy.dep, PyData.depth]
  | .t xs => by rw [Dy.py, Dy.dep, PyData.depth, Dy.pys_dep xs]
  | .l xs => by rw [Dy.py, Dy.dep, PyData.depth, Dy.pys_dep xs]
theorem Dy.pys_dep : ∀ xs : List Dy, PyData.depthAll (Dy.pys xs) = Dy.deps xs
  | [] => by rw [Dy.pys, Dy.deps, PyData.depthAll]
  | x :: xs => by rw [Dy.pys, Dy.deps, PyData.depthAll, Dy.py_dep x, Dy.pys_dep xs]
end
mutual
theorem Dy.py_lay : ∀ x : Dy, x.okc → x.py.canLay0 = true
  | .i z, _ => by rw [Dy.py, PyData.canLay0]
  | .s x, h => by
    rw [Dy.py]
    rw [Dy.okc] at h
    exact (instDatTx).lay h
  | .n, _ => by rw [Dy.py, PyData.canLay0]
  | .t xs, h => by rw [Dy.py, PyData.canLay0]; rw [Dy.okc] at h; exact Dy.pys_lay xs h
  | .l xs, h => by rw [Dy.py, PyData.canLay0]; rw [Dy.okc] at h; exact Dy.pys_lay xs h
theorem Dy.pys_lay : ∀ xs : List Dy, Dy.okcs xs → PyData.canLayAll0 (Dy.pys xs) = true
  | [], _ => by rw [Dy.pys, PyData.canLayAll0]
  | x :: xs, h => by
    rw [Dy.okcs] at h
    rw [Dy.pys, PyData.canLayAll0, Dy.py_lay x h.1, Dy.pys_lay xs h.2]
    rfl
end
mutual
theorem Dy.py_eqv : ∀ x y : Dy, PyData.eqv x.py y.py = true ↔ x = y
  | .i a, .i b => by rw [Dy.py, Dy.py, PyData.eqv, beq_iff_eq]; exact ⟨fun h => congrArg _ h, fun h => Dy.i.inj h⟩
  | .i a, .s b => by simp [Dy.py, PyData.eqv]
  | .i a, .n => by simp [Dy.py, PyData.eqv]
  | .i a, .t b => by simp [Dy.py, PyData.eqv]
  | .i a, .l b => by simp [Dy.py, PyData.eqv]
  | .s a, .i b => by simp [Dy.py, PyData.eqv]
  | .s a, .s b => by
    rw [Dy.py, Dy.py]
    have := (instDatTx).eqv a b
    rw [show PyData.eqv (.str (sx a)) (.str (sx b)) = decide (a = b) from this, decide_eq_true_eq]
    exact ⟨fun h => congrArg _ h, fun h => Dy.s.inj h⟩
  | .s a, .n => by simp [Dy.py, PyData.eqv]
  | .s a, .t b => by simp [Dy.py, PyData.eqv]
  | .s a, .l b => by simp [Dy.py, PyData.eqv]
  | .n, .i b => by simp [Dy.py, PyData.eqv]
  | .n, .s b => by simp [Dy.py, PyData.eqv]
  | .n, .n => by simp [Dy.py, PyData.eqv]
  | .n, .t b => by simp [Dy.py, PyData.eqv]
  | .n, .l b => by simp [Dy.py, PyData.eqv]
  | .t a, .i b => by simp [Dy.py, PyData.eqv]
  | .t a, .s b => by simp [Dy.py, PyData.eqv]
  | .t a, .n => by simp [Dy.py, PyData.eqv]
  | .t a, .t b => by rw [Dy.py, Dy.py, PyData.eqv, Dy.pys_eqv a b]; exact ⟨fun h => congrArg _ h, fun h => Dy.t.inj h⟩
  | .t a, .l b => by simp [Dy.py, PyData.eqv]
  | .l a, .i b => by simp [Dy.py, PyData.eqv]
  | .l a, .s b => by simp [Dy.py, PyData.eqv]
  | .l a, .n => by simp [Dy.py, PyData.eqv]
  | .l a, .t b => by simp [Dy.py, PyData.eqv]
  | .l a, .l b => by rw [Dy.py, Dy.py, PyData.eqv, Dy.pys_eqv a b]; exact ⟨fun h => congrArg _ h, fun h => Dy.l.inj h⟩
theorem Dy.pys_eqv : ∀ xs ys : List Dy, PyData.eqvAll (Dy.pys xs) (Dy.pys ys) = true ↔ xs = ys
  | [], [] => by simp [Dy.pys, PyData.eqvAll]
  | [], y :: ys => by simp [Dy.pys, PyData.eqvAll]
  | x :: xs, [] => by simp [Dy.pys, PyData.eqvAll]
  | x :: xs, y :: ys => by rw [Dy.pys, Dy.pys, PyData.eqvAll, Bool.and_eq_true, Dy.py_eqv x y, Dy.pys_eqv xs ys]; exact ⟨fun h => by rw [h.1, h.2], fun h => by cases h; exact ⟨rfl, rfl⟩⟩
end
mutual
theorem rpD_dp {K : PySem.W.Frag} {F : Hp} : ∀ (x : Dy) (v : V), rpD F x v → Dp K F v x.py
  | .i z, v, h => by rw [rpD] at h; subst h; rw [Dy.py]; exact .int z
  | .s x, v, h => by rw [rpD] at h; subst h; rw [Dy.py]; exact .str _
  | .n, v, h => by rw [rpD] at h; subst h; rw [Dy.py]; exact .non
  | .t xs, v, h => by
    rw [rpD] at h
    obtain ⟨a, vs, rfl, h1, h2⟩ := h
    rw [Dy.py]
    exact .tup (.inl (.inl h1)) (rpDs_dp xs vs h2)
  | .l xs, v, h => by
    rw [rpD] at h
    obtain ⟨a, vs, rfl, h1, h2⟩ := h
    rw [Dy.py]
    exact .lst (.inl (.inl h1)) (rpDs_dp xs vs h2)
theorem rpDs_dp {K : PySem.W.Frag} {F : Hp} : ∀ (xs : List Dy) (vs : List V), rpDs F xs vs → DpAll K F vs (Dy.pys xs)
  | [], vs, h => by rw [rpDs] at h; subst h; rw [Dy.pys]; exact .nil
  | x :: xs, vs, h => by
    rw [rpDs] at h
    obtain ⟨v, ws, rfl, h1, h2⟩ := h
    rw [Dy.pys]
    exact .cons (rpD_dp x v h1) (rpDs_dp xs ws h2)
end
structure Dy.Shp (x : Dy) : Prop where
  ok : x.okc
  dp : x.dep ≤ 64
theorem Dy.Shp.shaped {x : Dy} (h : x.Shp) : SeqAt.shaped x.py = true := by
  unfold SeqAt.shaped
  rw [Dy.py_lay x h.ok, Dy.py_dep, decide_eq_true h.dp]
  rfl
section
variable {X : Cx} {α β : Type} {i : Rep α} {j : Rep β}
theorem o_eqY {x : α} {y : β} {kb : Bool} {k : Nat} [h1 : IsD α] [h2 : IsD β] (hr : Room k X.A) (hx : (h1.d x).Shp) (hy : (h2.d y).Shp) (hk : kb = true ↔ h1.d x = h2.d y) : OB X (compareOp .Eq) x y kb := ob_flat (op_eqD hr.units) fun F H v u Q s r1 r2 q =>
  ⟨(h1.d x).py, (h2.d y).py, rpD_dp _ _ (rpD_mono s _ _ (h1.iff.mp r1)), rpD_dp _ _ (rpD_mono s _ _ (h2.iff.mp r2)), hx.shaped, hy.shaped, q _ (by
    have e : PyData.eqv (h1.d x).py (h2.d y).py = kb := by rw [Bool.eq_iff_iff, Dy.py_eqv]; exact hk.symm
    rw [e]
    exact rfl)⟩
end
section
variable {K : PySem.W.Frag} {B : Bs} {F H F' H' : Hp} {σ : L2.St} {Γ : List Slot}
theorem Lc.putOO (L : Lc K B F H σ Γ) (k : Nat) {o : Own} {v : V} (f : ∀ b ∈ o.fp, F b = none ∧ B.nw b) (fr : ∀ (j : Nat) o', k ≠ j → Γ[j]? = some (.own o') → ∀ b ∈ o.fp, b ∉ o'.fp) (ok : o.ok K F H v) : Lc K B F H (σ.set k (some v)) (Γ.set k (.own o)) := by
  refine ⟨L.ext, by simp [L.len], fun j t h => ?_, L.ap.putO k fr⟩
  rw [get_set_join]
  rcases get_set_slot h with ⟨e1, e2, rfl⟩ | ⟨e1, h⟩
  · rw [if_pos ⟨e1, by rw [L.len]; exact e2⟩]
    exact ⟨v, rfl, ok, f⟩
  · rw [if_neg fun z => e1 z.1]; exact L.ok j t h
end
section
variable {X : Cx} {Γ : List Slot} {α β γ : Type} {i : Rep α} {j : Rep β} {pos p p2 pos2 : Pos} {e a b c elt tg it : Expr} {es : List Expr} {E : SE} {rest body : List Stmt}
theorem st_retC (k : Nat) {x : α} {o : Own} (he : EV X Γ e x) (hP : E.rt (.chg i x [o])) (hg : autoParam (Γ[k]? = some (.own o)) aRfl) : ST X (.Return (some e) pos :: rest) Γ E := fun B F H σ D L ed =>
  WP.cons (ps_ret peW) (he B F H σ _ L fun v F1 H1 e1 r1 => by
    have L1 := L.step e1
    obtain ⟨u, _, ok, f⟩ := slot_own L1 hg
    have eu := o.rt ok
    subst eu
    refine ed.rt (.chg i x [o]) v F1 H1 hP L1.ext ⟨r1, fun o' ho => ?_, by simp⟩
    rw [List.mem_singleton.mp ho]
    exact ⟨ok, fun b hb => ⟨(f b hb).2, (f b hb).1⟩⟩)
theorem st_unpackP (k1 k2 : Nat) {n1 n2 : Str} {P0 : Own → Prop} {G : List α → List β → Prop} {q1 q2 tp : Pos} {kk} (hk : k1 ≠ k2) (he : EX X Γ e (fun r => r = .own P0)) (hP : ∀ o, P0 o → ∃ ad l m xs ys, G xs ys ∧ o = ownP i j ad l m xs ys) (hr : ∀ l m xs ys, G xs ys → ST X rest ((Γ.set k1 (.lst i l xs)).set k2 (.lst j m ys)) E)
    (hg : PG X (.Tuple [.Name n1 q1, .Name n2 q2] kk tp) (gTup X.K 2 (gCons (gName k1) (gCons (gName k2) gNil))))
    (hs : autoParam (swapsWithSole [.Tuple [.Name n1 q1, .Name n2 q2] kk tp] e pos.line X.env = pure false) aRfl) (hw : autoParam (swappedStores [.Tuple [.Name n1 q1, .Name n2 q2] kk tp] e X.env = pure none) aRfl)
    (h1 : autoParam ((assignEach [.Tuple [.Name n1 q1, .Name n2 q2] kk tp] X.env).map (·.2) = [assign (.Tuple [.Name n1 q1, .Name n2 q2] kk tp) X.env]) aRfl) :
    ST X (.Assign [.Tuple [.Name n1 q1, .Name n2 q2] kk tp] e pos :: rest) Γ E := fun B F H σ D L ed =>
  WP.cons (ps_asg peW hg hs hw h1) (he B F H σ _ L fun r v F1 H1 hr1 e1 ok => by
    subst hr1
    obtain ⟨o, ho, f, ok⟩ := ok
    obtain ⟨ad, l, m, xs, ys, g, rfl⟩ := hP o ho
    obtain ⟨rfl, ⟨n1', n2', n3'⟩, ht, ⟨vs, hl, p1⟩, ws, hm, p2⟩ := ok
    have fl := f l (by show l ∈ [ad, l, m]; simp)
    have fm := f m (by show m ∈ [ad, l, m]; simp)
    refine ⟨ad, [.ref l, .ref m], rfl, .inl (.inl ht), rfl, .ref l, [.ref m], rfl, .ref m, [], rfl, rfl, ?_⟩
    have L1 := L.putL k1 e1 fl.1 fl.2 hl p1
    refine hr l m xs ys g B F1 H1 _ D (L1.putOO k2 (o := ownL j m ys) (v := .ref m) (fun b hb => by rw [List.mem_singleton.mp hb]; exact ⟨fm.2, L.nw fm.1⟩) (fun q o' hq h b hb => ?_) ⟨rfl, ws, hm, p2⟩) (ed.weak e1.ff)
    rw [List.mem_singleton.mp hb]
    rcases get_set_slot h with ⟨_, _, z⟩ | ⟨_, h⟩
    · cases z
      exact fun z => n3' (List.mem_singleton.mp z).symm
    · exact L.ne_own fm.1 h)
end
end Tw
namespace Tw
open PySem PySem.Spec PyProof.Rows L2 TL
end Tw
namespace Tw
open PySem PySem.Spec PyProof.Rows L2 TL
section
variable {X : Cx} {Γ Γ' : List Slot} {α β γ : Type} {i : Rep α} {j : Rep β} {l : Rep γ} {pos p p2 p3 pos2 : Pos} {e a b c elt tg it : Expr} {es : List Expr} {E : SE} {rest body : List Stmt}
theorem et_le {k : Bool} (h : Le Γ Γ') (he : ET X Γ' c k) : ET X Γ c k := fun B F H σ Q L q => he B F H σ Q (L.le h) q
theorem st_asgEx {G : α → Prop} {bind : α → List Slot → List Slot} {vs : List Nat} {g : TG} (he : EX X Γ e (fun r => ∃ x, G x ∧ r = .val i x)) (hT : Tg X.K g bind vs) (hr : ∀ x, G x → ST X rest (bind x Γ) E) (hg : PG X tg g) (hs : autoParam (swapsWithSole [tg] e pos.line X.env = pure false) aRfl) (hw : autoParam (swappedStores [tg] e X.env = pure none) aRfl)
    (h1 : autoParam ((assignEach [tg] X.env).map (·.2) = [assign tg X.env]) aRfl) : ST X (.Assign [tg] e pos :: rest) Γ E := fun B F H σ D L ed =>
  WP.cons (ps_asg peW hg hs hw h1) (he B F H σ _ L fun r v F1 H1 er e1 r1 => by
    obtain ⟨x, gx, rfl⟩ := er
    exact hT.run B F1 H1 σ _ v x _ (L.step e1) r1 fun σ2 L2 _ => hr x gx B F1 H1 σ2 D L2 (ed.weak e1.ff))
end
end Tw
namespace L2
open PySem PySem.Spec PySem.Calls PyProof.Rows
end L2
namespace Tw
open PySem PySem.Spec PyProof.Rows L2 TL
end Tw
namespace Tw
open PySem PySem.Spec PyProof.Rows L2 TL
section
variable {X : Cx} {Γ Γ' : List Slot} {α β γ : Type} {i : Rep α} {j : Rep β} {l : Rep γ} {pos p p2 p3 pos2 : Pos} {e a b c elt tg it : Expr} {es : List Expr} {E : SE} {rest body : List Stmt}
theorem prep {R : V → α → Prop} {vs : List V} {xs : List α} (h : Paired R vs xs) : ∀ n : Nat, Paired R (List.replicate n vs).flatten (List.replicate n xs).flatten
  | 0 => .nil
  | n + 1 => by
    rw [List.replicate_succ, List.replicate_succ, List.flatten_cons, List.flatten_cons]
    exact papp h (prep h n)
theorem en_rep {xs : List α} {n : Int} (ha : EN X Γ a xs) (hb : EV X Γ b n) (h1 : -(2 ^ 63) ≤ n) (h2 : n < 2 ^ 63) (hz : xs.length * n.toNat ≤ sizeLine) : EN X Γ (.BinOp a .Mult b pos) (List.replicate n.toNat xs).flatten := fun B F H σ Q L q =>
  WE.of (pe_op op_rep peW peW) (ha B F H σ _ L fun ad vs F1 H1 e1 ha0 fa h1' pr => hb B F1 H1 σ _ (L.step e1) fun u F2 H2 e2 r2 => by
    obtain rfl : u = .int n := r2
    refine ⟨ad, n, vs, rfl, rfl, e2.hs _ _ h1', h1, h2, by rw [Paired.length pr]; exact hz, fun p hp => ?_⟩
    have e12 := e1.trans e2
    have s2 := (L.step e12).same
    exact q p _ F2 _ (e12.trans (Ext.apart s2 hp)) (e12.hs.free hp) (s2.free hp) upd_same (prep (Paired.mapP pr fun _ _ z => i.mono e2.ff z) _))
end
end Tw
universe u
namespace Tw
open PySem PySem.Spec PyProof.Rows L2 TL
end Tw
namespace Tw
open PySem PySem.Spec PyProof.Rows L2 TL
end Tw
namespace Tw
open PySem PySem.Spec PyProof.Rows L2 TL
end Tw
namespace Tw
open PySem PySem.Spec PyProof.Rows L2 TL
theorem lt_mid {n : Nat} (h : n ≤ 100000) : n < sizeLine := Nat.lt_of_le_of_lt h (by decide)
end Tw
namespace Tw
open PySem PySem.Spec PyProof.Rows L2 TL
structure Key4 where
  n : Tx
  r : Int
  c : Int
  k : Int
deriving DecidableEq
noncomputable def Key4.ks (x : Key4) : List Key := [.inr (sx x.n), .inl x.r, .inl x.c, .inl x.k]
theorem Key4.inj : ∀ x y : Key4, x.ks = y.ks → x = y := fun x y h => by
  obtain ⟨n, r, c, k⟩ := x
  obtain ⟨n', r', c', k'⟩ := y
  simp only [Key4.ks, List.cons.injEq, and_true] at h
  obtain ⟨h1, h2, h3, h4⟩ := h
  rw [sx_inj (Sum.inr.inj h1), Sum.inl.inj h2, Sum.inl.inj h3, Sum.inl.inj h4]
noncomputable instance repKey4 : Rep Key4 := ⟨fun _ F v x => ∃ b, v = .ref b ∧ F b = some (.tup (x.ks.map kV)), fun s ⟨b, e, h⟩ => ⟨b, e, s _ _ h⟩⟩
noncomputable instance dkKey4 : DKey Key4 := .ofT Key4.ks Key4.inj fun h => h
theorem Lc.updO2 {K : PySem.W.Frag} {B : Bs} {F H H' : Hp} {σ : L2.St} {Γ : List Slot} (L : Lc K B F H σ Γ) {k : Nat} {o o' : Own} {v : V} (hk : Γ[k]? = some (.own o)) (hv : σ[k]? = some (some v)) (keep : ∀ b u, b ∉ o.fp → H b = some u → H' b = some u) (old : ∀ b ∈ o.fp, H' b ≠ none)
    (fp : ∀ b ∈ o'.fp, b ∈ o.fp ∨ (F b = none ∧ B.nw b ∧ ∀ (q : Nat) o2, Γ[q]? = some (.own o2) → b ∉ o2.fp)) (ok : o'.ok K F H' v) : Lc K B F H' σ (Γ.set k (.own o')) := by
  obtain ⟨_, _, _, f⟩ := slot_own L hk
  have nfp : ∀ b u, F b = some u → b ∉ o.fp := fun b u q hb => by rw [(f b hb).1] at q; cases q
  refine ⟨⟨L.ext.ff, fun b u q => keep b u (nfp b u q) (L.same _ _ q), fun b u nb q => ?_, L.ext.nwM, fun x hx hb => ?_⟩, by simp [L.len], fun q t h => ?_, L.ap.putO k fun j o2 hj h b hb => ?_⟩
  · refine keep b u (fun hb => ?_) (L.ext.hh b u nb q)
    rcases (f b hb).2 with z | z
    · rw [z] at q; cases q
    · exact nb z
  · by_cases hm : x ∈ o.fp
    · exact old x hm
    · have := L.there x hx hb
      cases q : H x with
      | none => exact absurd q this
      | some u => rw [keep x u hm q]; exact fun z => nomatch z
  · rcases get_set_slot h with ⟨e1, e2, rfl⟩ | ⟨e1, hq⟩
    · subst e1
      rw [hv]
      refine ⟨v, rfl, ok, fun b hb => ?_⟩
      rcases fp b hb with z | z
      · exact f b z
      · exact ⟨z.1, z.2.1⟩
    · have old' := L.ok q t hq
      cases t with
      | no => trivial
      | val i x => exact old'
      | own o2 =>
        obtain ⟨u, eu, ok2, f2⟩ := old'
        exact ⟨u, eu, o2.stay (Same.refl F) (fun b hb w q1 => keep b w (fun hb2 => L.ap k q o o2 e1 hk hq b hb2 hb) q1) ok2, f2⟩
  · rcases fp b hb with z | z
    · exact L.ap k j o o2 hj hk h b z
    · exact z.2.2 j o2 h
end Tw
namespace Tw
open PySem PySem.Spec PyProof.Rows L2 TL
end Tw
namespace Tw
open PySem PySem.Spec PyProof.Rows L2 TL
section
variable {X : Cx} {Γ : List Slot} {α β γ δ ε : Type} {i : Rep α} {j : Rep β} {l : Rep γ} {m : Rep δ} {m5 : Rep ε} {pos p p2 : Pos} {e a b c : Expr} {es : List Expr} {E : SE} {rest body : List Stmt}
theorem pg5 (k1 k2 k3 k4 k5 : Nat) {n1 n2 n3 n4 n5 : Str} {q1 q2 q3 q4 q5 tp : Pos} {kk} (h1 : PG X (.Name n1 q1) (gName k1)) (h2 : PG X (.Name n2 q2) (gName k2)) (h3 : PG X (.Name n3 q3) (gName k3)) (h4 : PG X (.Name n4 q4) (gName k4)) (h5 : PG X (.Name n5 q5) (gName k5)) (hc : autoParam (X.calm = true) aRfl)
    (a1 : autoParam ((assignEach [.Name n1 q1, .Name n2 q2, .Name n3 q3, .Name n4 q4, .Name n5 q5] X.env).map (·.2) = assign (.Name n1 q1) X.env :: (assignEach [.Name n2 q2, .Name n3 q3, .Name n4 q4, .Name n5 q5] X.env).map (·.2)) aRfl)
    (a2 : autoParam ((assignEach [.Name n2 q2, .Name n3 q3, .Name n4 q4, .Name n5 q5] X.env).map (·.2) = assign (.Name n2 q2) X.env :: (assignEach [.Name n3 q3, .Name n4 q4, .Name n5 q5] X.env).map (·.2)) aRfl)
    (a3 : autoParam ((assignEach [.Name n3 q3, .Name n4 q4, .Name n5 q5] X.env).map (·.2) = assign (.Name n3 q3) X.env :: (assignEach [.Name n4 q4, .Name n5 q5] X.env).map (·.2)) aRfl)
    (a4 : autoParam ((assignEach [.Name n4 q4, .Name n5 q5] X.env).map (·.2) = assign (.Name n4 q4) X.env :: (assignEach [.Name n5 q5] X.env).map (·.2)) aRfl)
    (a5 : autoParam ((assignEach [.Name n5 q5] X.env).map (·.2) = assign (.Name n5 q5) X.env :: (assignEach [] X.env).map (·.2)) aRfl)
    (hn : autoParam ((assignEach [.Name n1 q1, .Name n2 q2, .Name n3 q3, .Name n4 q4, .Name n5 q5] X.env).length = 5) aRfl) (hst : autoParam ((assignEach [.Name n1 q1, .Name n2 q2, .Name n3 q3, .Name n4 q4, .Name n5 q5] X.env).findIdx? (·.1) = none) aRfl) :
    PG X (.Tuple [.Name n1 q1, .Name n2 q2, .Name n3 q3, .Name n4 q4, .Name n5 q5] kk tp) (gTup X.K 5 (gCons (gName k1) (gCons (gName k2) (gCons (gName k3) (gCons (gName k4) (gCons (gName k5) gNil)))))) :=
  pg_tup hc (pgs_cons h1 (pgs_cons h2 (pgs_cons h3 (pgs_cons h4 (pgs_cons h5 pgs_nil a5) a4) a3) a2) a1) hn hst
end
end Tw
namespace Tw
open PySem PySem.Spec PyProof.Rows L2 TL
end Tw
namespace Tw
open PySem PySem.Spec PyProof.Rows L2 TL
theorem apart_val {α : Type} {i : Rep α} {x : α} {A : List Slot} (h : Apart A) : Apart (.val i x :: A) := fun p q o1 o2 ne h1 h2 => by
  match p, q with
  | 0, _ => cases h1
  | p + 1, 0 => cases h2
  | p + 1, q + 1 => exact h p q o1 o2 (by omega) (by simpa using h1) (by simpa using h2)
theorem ma_val {α : Type} {i : Rep α} {x : α} {A : List Slot} {b : Addr} (m : MA (.val i x :: A) b) : MA A b := by
  obtain ⟨o, ho, hb⟩ := m
  rcases List.mem_cons.mp ho with z | z
  · cases z
  · exact ⟨o, z, hb⟩
section
variable {X : Cx} {Γ Γ1 : List Slot} {α β γ : Type} {i : Rep α} {j : Rep β} {l : Rep γ} {pos p p2 p3 pos2 : Pos} {e a b c elt tg it : Expr} {es : List Expr} {E : SE} {rest body : List Stmt}
noncomputable def ETG (X : Cx) (Γ : List Slot) (c : Expr) (N : Bool → List Slot → Prop) : Prop :=
  ∀ B F H σ Q, Lc X.K B F H σ Γ → (∀ k F' H' Γ', N k Γ' → Same F F' → Lc X.K B F' H' σ Γ' → Q k H') → WT X c σ H Q
theorem st_ifG {N : Bool → List Slot → Prop} {A C : List Stmt} (hc : ETG X Γ c N) (hA : ∀ Γ', N true Γ' → ST X A Γ' { E with nx := fun Γ' => ST X rest Γ' E }) (hC : ∀ Γ', N false Γ' → ST X C Γ' { E with nx := fun Γ' => ST X rest Γ' E }) : ST X (.If c A C pos :: rest) Γ E := fun B F H σ D L ed =>
  WP.cons (ps_if ptW psW psW) (hc B F H σ _ L fun k F1 H1 Γ1 hN s1 L1 => by
    cases k with
    | true => exact hA Γ1 hN B F1 H1 σ _ L1 ((ed.weak s1).seq)
    | false => exact hC Γ1 hN B F1 H1 σ _ L1 ((ed.weak s1).seq))
theorem eg_callV (k : Nat) {n : Str} {kk : Nat} {ps : List Str} {S : Spec} {o : Own} {δ : Type} {i0 : Rep δ} {x0 : δ} {A : List Slot} {P : Ret → List Slot → Prop} {R : Exn → List Slot → Prop} {G : α → Own → Prop} (GH : Has X.prog X.w X.K X.mg X.base kk n ps S) (hr : Room kk X.A) (ha : EAb X Γ (e :: es) (.val i0 x0 :: .own o :: A)) (hA : noOwn A = true) (hg : Γ[k]? = some (.own o))
    (hG : ∀ x o', G x o' → o'.root = o.root) (hP : ∀ x o', G x o' → P (.val i x) (Γ.set k (.own o'))) (hS : ∀ P' R', (∀ x o', G x o' → P' (.chg i x [o'])) → (∀ y, R y (Γ.set k .no) → R' y) → S (.val i0 x0 :: .own o :: A) P' R') (hgl : autoParam (Gl X n) aRfl) (hd : autoParam ((n == ("__debug__" : Str)) = false) aDec)
    (he : autoParam (starEach (e :: es) X.env = (false, eval e X.env) :: starEach es X.env) aStar) (hpl : autoParam ((backTo pos (starEach es X.env)).any (·.1) = false) aPl) : EG X Γ (.Call (.Name n p) (e :: es) [] pos) P R := fun B F H σ Q L q z => by
  obtain ⟨f, fd, hm, hk, hb, GF⟩ := GH.ex
  refine WE.of (pe_callS (E := fun σ cls d H => XW X cls d σ H) GF hr hgl hm hk hb (fun σ => passAt takesW σ) paW hd he hpl) (ha B F H σ _ L fun vs F1 H1 e1 r1 => ?_)
  exact ⟨F1, _, (L.step e1).same, r1, apart_val (apart_one hA), hS _ _ (fun x o' hx => borrow_rets hg L e1 (fun b m => ma_one hA (ma_val m)) hG hP q hx) fun y hy => borrow_exns hg L e1 (fun b m => ma_one hA (ma_val m)) z hy⟩
end
end Tw
namespace Tw
open PySem PySem.Spec PyProof.Rows L2 TL
end Tw
namespace Tw
open PySem PySem.Spec PyProof.Rows L2 TL
end Tw
namespace L2
open PySem PySem.Spec PyProof.Rows PySem.W PySem.Calls PyProof.V
end L2
namespace L2
open PySem PySem.Spec PyProof.Rows PySem.W PySem.Calls
section
variable {X : Cx} {pins : List (Addr × Obj)} {σ : St} {H : Hp} {s : Shared} {A : Around} {β : Type} {a kS : Addr} {b : Bool} {vs : List Value} {e1 : Nat} {P : PySem.Fin → Shared → Prop} {k : β → PyData} {bs : List β} {f : Value}
theorem pin_fp {q : Addr} {o : Obj} (I : Inv X ((q, o) :: pins) σ H s) (h0 : X.s_0.heap.objs.size ≤ q) (hp : ∀ p ∈ X.pn ++ pins, p.1 ≠ q) : FpOk X pins H q ∧ s.heap.get? q = some o := by
  obtain ⟨p1, p2, p3, p4, p5⟩ := I.pin (q, o) (List.mem_append_right _ (List.mem_cons_self ..))
  refine ⟨⟨p2, p3, p4, .inr h0, fun x c e z => ?_, hp⟩, p1⟩
  obtain ⟨v, o', ho, hd⟩ := I.cell x c e
  rw [z, p1] at ho
  cases ho
  exact p5 v hd
theorem unpin {q : Addr × Obj} (I : Inv X (q :: pins) σ H s) : Inv X pins σ H s := I.pins_of fun p hp => I.pin p (List.mem_append_right _ (List.mem_cons_of_mem _ hp))
theorem repin {q : Addr} {o : Obj} (I : Inv X pins σ H s) (fp : FpOk X pins H q) (h : s.heap.get? q = some o) (hc : ∀ v, o.data ≠ .cell v) : Inv X ((q, o) :: pins) σ H s := I.pins_of fun p hp => by
  rcases List.mem_cons.mp hp with z | z
  · rw [z]; exact ⟨h, fp.1, fp.2.1, fp.2.2.1, hc⟩
  · exact I.pin p (List.mem_append_right _ z)
theorem keyI_rest (hka : kS ≠ a) (I : Inv X ((kS, seqObj "list" #[] 0) :: (a, seqObj "list" #[] e1) :: pins) σ H s) (hk0 : X.s_0.heap.objs.size ≤ kS) (ha0 : X.s_0.heap.objs.size ≤ a) (hkp : ∀ p ∈ X.pn ++ pins, p.1 ≠ kS) (hap : ∀ p ∈ X.pn ++ pins, p.1 ≠ a)
    (hlen : bs.length = vs.length) (hZ : vs.length ≤ sizeLine) (hal : AllAlike (bs.map k)) (hsk : Sortable (bs.map k)) (hu : ∀ d, d ∈ bs.map k → A.units + d.depth < cLine)
    (turn : ∀ (j : Nat) (u : Value) (x : β), vs[j]? = some u → bs[j]? = some x → ∀ (H' : Hp) (pins' : List (Addr × Obj)) (s' : Shared), (∀ c o, H c = some o → H' c = some o) → Inv X pins' σ H' s' → ∀ Qk : VK, (∀ v H'', (∀ c o, H' c = some o → H'' c = some o) → Dp X.K H'' v (k x) → Qk v H'') →
      wpAny (model X.prog X.w) A (call f [u]) (EP X pins' σ Qk) (fun _ _ => False) s')
    (dm : ∀ (H' H'' : Hp) (v : V) (d : PyData), (∀ c o, H' c = some o → H'' c = some o) → Dp X.K H' v d → Dp X.K H'' v d)
    (h : ∀ H' s' out c, (∀ c o, H c = some o → H' c = some o) → Inv X pins σ H' s' → FpOk X pins H' a → s'.heap.get? a = some (seqObj "list" (List.toArray out) c) → KeyedOut b (bs.map k) vs out → P (.done (.ret .none)) s') :
    wpAny (model X.prog X.w) A (ksk_rest a f b vs.toArray e1 (.ref kS)) P X.xe s := by
  unfold ksk_rest
  refine wpAny_bind (wpAny_rule ?_)
  first
    | rw [List.forIn_toArray]
    | (rw [← Array.forIn_toList]; simp only [List.toList_toArray])
    | rw [← Array.forIn_toList]
  refine wpAny_bind (ksk_fold (fun i s' => ∃ H' kA e, (∀ c o, H c = some o → H' c = some o) ∧ Inv X ((kS, seqObj "list" kA e) :: (a, seqObj "list" #[] e1) :: pins) σ H' s' ∧ EachIs (fun u x => ∃ v, RelV v u ∧ Dp X.K H' v (k x)) kA.toList (bs.take i)) vs 0 s
    ⟨H, #[], 0, fun _ _ q => q, I, by rw [List.take_zero]; exact EachIs.nil⟩ ?step ?done)
  case step =>
    rintro j u s' hx ⟨H', kA, e, hs, I', hk⟩
    simp only [Nat.zero_add] at hk ⊢
    have hj : j < vs.length := (List.getElem?_eq_some_iff.mp hx).1
    obtain ⟨x, hkj⟩ : ∃ x, bs[j]? = some x := ⟨_, List.getElem?_eq_getElem (by omega)⟩
    have hz : kA.size ≤ vs.length := by
      have h1 := hk.length
      rw [Array.length_toList, List.length_take] at h1
      omega
    refine wpAny_bind (wpAny_attempt (wpAny_mono (turn j u x hx hkj H' _ s' hs I' (fun v H'' => (∀ c o, H' c = some o → H'' c = some o) ∧ Dp X.K H'' v (k x)) fun v H'' h1 h2 => ⟨h1, h2⟩) (fun v s'' he => ?_) fun _ _ hF => hF.elim))
    obtain ⟨vv, H'', I'', rv, h1, h2⟩ := he
    try dsimp only
    have hka' : ∀ p ∈ X.pn ++ ((a, seqObj "list" #[] e1) :: pins), p.1 ≠ kS := fun p hp => by
      rcases List.mem_append.mp hp with z | z
      · exact hkp p (List.mem_append_left _ z)
      · rcases List.mem_cons.mp z with z | z
        · rw [z]; exact hka.symm
        · exact hkp p (List.mem_append_right _ z)
    obtain ⟨fk, nk2⟩ := pin_fp I'' hk0 hka'
    have s1 := Heap.SameBut.update s''.heap kS (Obj.mapSeq (·.push v))
    obtain ⟨c2, hc2⟩ : ∃ c2, (s''.heap.update kS (Obj.mapSeq (·.push v))).get? kS = some (seqObj "list" (kA.push v) c2) := ⟨_, get?_update_seq nk2 (·.push v)⟩
    have ek : bs.take (j + 1) = bs.take j ++ [x] := by rw [List.take_add_one, hkj]; simp
    have ea : (kA.push v).toList = kA.toList ++ [v] := by simp
    refine wpAny_bind (listUpdate_at nk2 rfl ?_ (Nat.le_trans hz hZ) (Nat.le_trans (Nat.le_of_eq (Array.size_push ..)) (Nat.succ_le_succ (Nat.le_trans hz hZ))))
    have I3 := (unpin I'').turned (t' := s''.toks) (it := kS) (fun b o hb q => (s1.2 b hb).trans q) fk.1 fk.2.1 fk.2.2.2.1 fk.2.2.2.2.1 fk.2.2.2.2.2
    refine wpAny_pure ⟨rfl, H'', kA.push v, c2, fun c o q => h1 _ _ (hs _ _ q), repin I3 fk hc2 (fun v z => by cases z), ?_⟩
    rw [ea, ek]
    exact each_snoc (R := fun (u : Value) (x : β) => ∃ v, RelV v u ∧ Dp X.K H'' v (k x)) ⟨vv, rv, h2⟩ (hk.mono fun u d ⟨w, r1, r2⟩ => ⟨w, r1, dm _ _ _ _ h1 r2⟩)
  case done =>
    rintro s' ⟨H', kA, e, hs, I', hk⟩
    have e3 : bs.take (0 + vs.length) = bs := List.take_of_length_le (by omega)
    rw [e3] at hk
    have hka' : ∀ p ∈ X.pn ++ ((a, seqObj "list" #[] e1) :: pins), p.1 ≠ kS := fun p hp => by
      rcases List.mem_append.mp hp with z | z
      · exact hkp p (List.mem_append_left _ z)
      · rcases List.mem_cons.mp z with z | z
        · rw [z]; exact hka.symm
        · exact hkp p (List.mem_append_right _ z)
    obtain ⟨fk, nk'⟩ := pin_fp I' hk0 hka'
    obtain ⟨fa, na'⟩ := pin_fp (unpin I') ha0 hap
    have hk' : EachIs (fun v d => ∃ as, Reads s'.heap v d as) kA.toList (bs.map k) := by
      have : ∀ {us : List Value} {ys : List β}, EachIs (fun u x => ∃ v, RelV v u ∧ Dp X.K H' v (k x)) us ys → EachIs (fun v d => ∃ as, Reads s'.heap v d as) us (ys.map k) := by
        intro us ys h
        induction h with
        | nil => exact .nil
        | cons h1 h2 ih =>
          obtain ⟨v, r1, r2⟩ := h1
          exact .cons (Dp.reads I' _ _ _ r2 r1) ih
      exact this hk
    have hsz : kA.size = vs.length := by
      have h1 := hk.length
      rw [Array.length_toList] at h1
      omega
    try dsimp only
    refine wpAny_bind (listItems_at nk' rfl ?_)
    obtain ⟨G, g1, g2⟩ := restrict s'.heap fun c => decide (c ≠ kS)
    have kp : KeepsBut a G s'.heap := fun c o hc q => by
      by_cases hz : c = kS
      · rw [g2 c (by simp [hz])] at q; cases q
      · rw [g1 c (by simp [hz])] at q; exact q
    refine keyH_end (κ := dataKind s'.heap (bs.map k)) (h₁ := G) kp (g2 kS (by simp)) nk' na' hka (SortsAt.data hk' hal hsk hu) hsz hZ fun h3 tk3 c k3 n3 => ?_
    have keep3 : ∀ c o, c ∉ [a, kS] → s'.heap.get? c = some o → h3.get? c = some o := fun c o hc q => by
      have h1 : c ≠ a := fun z => hc (by simp [z])
      have h2 : c ≠ kS := fun z => hc (by simp [z])
      exact k3 c o h1 ((g1 c (by simp [h2])).trans q)
    have fk2 : FpOk X pins H' kS := ⟨fk.1, fk.2.1, fk.2.2.1, fk.2.2.2.1, fk.2.2.2.2.1, hkp⟩
    have I4 := (unpin (unpin I')).turnedL (t' := tk3) (ch := [a, kS]) keep3 fun c hc => by
      rcases List.mem_cons.mp hc with z | z
      · rw [z]; exact fa
      · rw [List.mem_singleton.mp z]; exact fk2
    exact h H' _ _ c hs I4 fa n3 ⟨s'.heap, kA.toList, hal, rfl, hk'⟩
theorem keyI_tree {n : Nat} (I : Inv X ((a, seqObj "list" vs.toArray n) :: pins) σ H s) (ha0 : X.s_0.heap.objs.size ≤ a) (hap : ∀ p ∈ X.pn ++ pins, p.1 ≠ a)
    (hlen : bs.length = vs.length) (hZ : vs.length ≤ sizeLine) (hal : AllAlike (bs.map k)) (hsk : Sortable (bs.map k)) (hu : ∀ d, d ∈ bs.map k → A.units + d.depth < cLine)
    (turn : ∀ (j : Nat) (u : Value) (x : β), vs[j]? = some u → bs[j]? = some x → ∀ (H' : Hp) (pins' : List (Addr × Obj)) (s' : Shared), (∀ c o, H c = some o → H' c = some o) → Inv X pins' σ H' s' → ∀ Qk : VK, (∀ v H'', (∀ c o, H' c = some o → H'' c = some o) → Dp X.K H'' v (k x) → Qk v H'') →
      wpAny (model X.prog X.w) A (call f [u]) (EP X pins' σ Qk) (fun _ _ => False) s')
    (dm : ∀ (H' H'' : Hp) (v : V) (d : PyData), (∀ c o, H' c = some o → H'' c = some o) → Dp X.K H' v d → Dp X.K H'' v d)
    (h : ∀ H' s' out c, (∀ c o, H c = some o → H' c = some o) → Inv X pins σ H' s' → FpOk X pins H' a → s'.heap.get? a = some (seqObj "list" (List.toArray out) c) → KeyedOut b (bs.map k) vs out → P (.done (.ret .none)) s') :
    wpAny (model X.prog X.w) A (ksk_tree a f b) P X.xe s := by
  obtain ⟨fa, ho⟩ := pin_fp I ha0 hap
  have ha : a < s.heap.objs.size := Heap.lt_size ho
  obtain ⟨e1, ho1⟩ : ∃ e1, (s.heap.update a (Obj.mapSeq fun _ => (#[] : Array Value))).get? a = some (seqObj "list" #[] e1) := ⟨_, get?_update_seq ho fun _ => #[]⟩
  have hkS : ((s.heap.update a (Obj.mapSeq fun _ => (#[] : Array Value))).push (seqObj "tuple" vs.toArray 0)).objs.size = s.heap.objs.size + 1 := by rw [size_push', Heap.size_update]
  unfold ksk_tree
  refine wpAny_bind (listItems_at ho rfl ?_)
  refine wpAny_bind (listUpdate_at ho rfl ?_ (by rw [List.size_toArray]; exact hZ) (Nat.zero_le _))
  refine wpAny_bind (seqEpoch_at ho1 rfl ?_)
  refine wpAny_bind (wpAny_newTuple ?_ (by show vs.length ≤ _; exact hZ))
  refine wpAny_bind (wpAny_newList ?_ (Nat.zero_le _))
  refine wpAny_holding ?_
  have sb := Heap.SameBut.update s.heap a (Obj.mapSeq fun _ => (#[] : Array Value))
  have I1 := repin ((unpin I).turned (t' := s.toks) (it := a) (fun c o hc q => (sb.2 c hc).trans q) fa.1 fa.2.1 fa.2.2.2.1 fa.2.2.2.2.1 fa.2.2.2.2.2) fa ho1 (fun v z => by cases z)
  have I2 := I1.kept (t' := s.toks) (h' := ((s.heap.update a (Obj.mapSeq fun _ => (#[] : Array Value))).push (seqObj "tuple" vs.toArray 0)).push (seqObj "list" #[] 0)) fun c o q => Heap.get?_push_of_some _ (Heap.get?_push_of_some _ q)
  have hsz : (s.heap.update a (Obj.mapSeq fun _ => (#[] : Array Value))).objs.size ≤ ((s.heap.update a (Obj.mapSeq fun _ => (#[] : Array Value))).push (seqObj "tuple" vs.toArray 0)).objs.size := by rw [hkS, Heap.size_update]; exact Nat.le_succ _
  have fk := I1.fpOk (H' := H) hsz (I1.hok.fresh hsz)
  have I3 := repin I2 fk (Heap.get?_push_size _ rfl) (fun v z => by cases z)
  exact keyI_rest (by rw [hkS]; exact Nat.ne_of_gt (Nat.lt_succ_of_lt ha)) I3 (Nat.le_trans I1.sz hsz) ha0 (fun p hp => fk.2.2.2.2.2 p (by
    rcases List.mem_append.mp hp with z | z
    · exact List.mem_append_left _ z
    · exact List.mem_append_right _ (List.mem_cons_of_mem _ z))) hap hlen hZ hal hsk hu turn dm h
theorem sorted_valsKey {T : String} {r d : Addr} {n : Nat} {Pv : Nat → Value → Prop} {OK : Heap → Prop} {R : Value → β → Prop} {fa : Addr} {Q : Value → Shared → Prop} (K : KdlSrc X.prog X.w T r d n Pv OK) (hh : A.handled = none) (I : Inv X pins σ H s) (hok : OK s.heap) (hn : n ≤ sizeLine)
    (hbs : bs.length = n) (hP : ∀ vs : List Value, vs.length = n → (∀ j v, vs[j]? = some v → Pv j v) → EachIs R vs bs) (hal : AllAlike (bs.map k)) (hsk : Sortable (bs.map k)) (hu : ∀ d, d ∈ bs.map k → A.units + 2 + d.depth < cLine)
    (turn : ∀ (u : Value) (x : β), R u x → x ∈ bs → ∀ (H' : Hp) (pins' : List (Addr × Obj)) (s' : Shared), (∀ c o, H c = some o → H' c = some o) → Inv X pins' σ H' s' → ∀ Qk : VK, (∀ v H'', (∀ c o, H' c = some o → H'' c = some o) → Dp X.K H'' v (k x) → Qk v H'') →
      wpAny (model X.prog X.w) A.in1.in1 (call (.ref fa) [u]) (EP X pins' σ Qk) (fun _ _ => False) s')
    (dm : ∀ (H' H'' : Hp) (v : V) (d : PyData), (∀ c o, H' c = some o → H'' c = some o) → Dp X.K H' v d → Dp X.K H'' v d)
    (h : ∀ H' s' out a c, (∀ c o, H c = some o → H' c = some o) → Inv X pins σ H' s' → FpOk X pins H' a → s'.heap.get? a = some (seqObj "list" (List.toArray out) c) → EachIs R out (bs.mergeSort (dataLe false k)) → Q (.ref a) s') :
    wpAny (model X.prog X.w) A (call (.builtin "sorted") [.ref r] [(Str.ofString "key", .ref fa)]) Q X.xe s := by
  refine call_function_entry_kw kind_sorted plain_sorted entry_sorted (ksk_s1 _ _) ?_
  unfold Builtin.«sorted»
  refine wpAny_bind (m := checkCount "sorted" 1 1 _) (wpAny_pure ?_)
  refine wpAny_bind (kdu_collect (A := A.in1) K hh hok hn fun h' tk acc hk hacc => ?_)
  have hl : acc.toList.length = n := by rw [Array.length_toList]; exact hacc.1
  have hE : EachIs R acc.toList bs := hP acc.toList hl fun j v e => hacc.2 j v (by rw [← Array.getElem?_toList]; exact e)
  refine wpAny_bind (wpAny_newList ?_ (by rw [hl]; exact hn))
  have I1 := I.kept (t' := tk) hk
  have I2 := I1.kept (t' := tk) (h' := h'.push (seqObj "list" acc.toList.toArray 0)) fun c o q => Heap.get?_push_of_some _ q
  have fa0 := I1.fpOk (H' := H) (b := h'.objs.size) (Nat.le_refl _) (I1.hok.fresh (Nat.le_refl _))
  have hg : (h'.push (seqObj "list" acc.toList.toArray 0)).get? h'.objs.size = some (seqObj "list" acc.toList.toArray 0) := Heap.get?_push_size _ rfl
  have I3 := repin I2 fa0 hg (fun v z => by cases z)
  refine wpAny_bind (wpAny_holding (wpAny_call_entry_kw slot_list_sort ⟨_, hg, rfl⟩ entry_list_sort ?body (ksk_l1 _ _)))
  case body =>
    rw [ksk_t1]
    refine wpAny_mono (keyI_tree (P := fun f s' => f = .done (.ret .none) ∧ Q (.ref h'.objs.size) s') I3 I1.sz (fun p hp => fa0.2.2.2.2.2 p hp) (by rw [hl]; exact hbs) (by rw [hl]; exact hn) hal hsk hu
      (fun j u x hu' hx => turn u x (hE.zip (u, x) (List.mem_of_getElem? (i := j) (by rw [List.getElem?_zip_eq_some]; exact ⟨hu', hx⟩))) (List.mem_of_getElem? hx)) dm fun H' s' out c hs I' fp hget ko => ⟨rfl, h H' s' out _ c hs I' fp hget (keyedOut_each k ko hE)⟩) (fun f s' hf => ?_) fun _ _ e => e
    obtain ⟨rfl, hq⟩ := hf
    exact ⟨_, rfl, wpAny_pure ⟨_, rfl, hq⟩⟩
end
end L2
namespace L2
open PySem PySem.Spec PyProof.Rows PySem.W PySem.Calls
noncomputable def ikv (ks : List (Int × V)) : List (Key × V) := ks.map fun p => ((Sum.inl p.1 : Key), p.2)
noncomputable def rSortDI : List V → Hp → VK → Prop := fun vs H Q => ∃ (a : Addr) (ks : List (Int × V)), vs = [.ref a] ∧ H a = some (.dK (ikv ks)) ∧ ∀ (ns : List Int) (p : Addr), ns.Perm (ks.map (·.1)) → ns.Pairwise (· ≤ ·) → H p = none → Q (.ref p) (upd H p (.lst (ns.map V.int)))
theorem kv_ints {ks : List (Int × V)} {vs : List (Key × Value)} (h : KV (ikv ks) vs) : vs.map (·.1) = ks.map fun p => (Sum.inl p.1 : Key) := by
  unfold ikv at h
  induction ks generalizing vs with
  | nil => cases h; rfl
  | cons p ks ih =>
    rw [List.map_cons] at h
    cases h with
    | cons r t => rw [List.map_cons, List.map_cons, ih t, ← r.1]
theorem ints_ofK {P : Program} {w : World} {kvs : List (Key × Value)} {ms : List Int} (hm : kvs.map (·.1) = ms.map fun i => (Sum.inl i : Key)) {acc : List Value} (hl : acc.length = kvs.length) (h : ∀ (j : Nat) (v : Value), acc[j]? = some v → ∃ k x, kvs[j]? = some (k, x) ∧ (mixKind P w).is k v = true) : IntsAre acc ms := by
  induction acc generalizing kvs ms with
  | nil =>
    cases kvs with
    | cons _ _ => cases hl
    | nil =>
      cases ms with
      | nil => exact .nil
      | cons _ _ => cases hm
  | cons v acc ih =>
    cases kvs with
    | nil => cases hl
    | cons q kvs =>
      cases ms with
      | nil => cases hm
      | cons m ms =>
        rw [List.map_cons, List.map_cons] at hm
        obtain ⟨e1, e2⟩ := List.cons.inj hm
        obtain ⟨k, x, hk, hi⟩ := h 0 v rfl
        cases (show some q = some (k, x) from hk)
        have e1 : k = Sum.inl m := e1
        subst e1
        rw [mixKind_is] at hi
        rcases keyIs_shape hi with ⟨i, t, e, rfl⟩ | ⟨y, t, e, _⟩
        · cases e
          exact .cons _ _ (ih e2 (by simpa using hl) fun j u hu => h (j + 1) u hu)
        · cases e
section
variable {X : Cx}
theorem cr_sortedDI (hc : X.calm = true) : CallR X (.builtin "sorted") rSortDI := by
  intro pins s σ H vs us Q I r h
  obtain ⟨a, ks, rfl, ha, q⟩ := h
  rw [Vals.ref1 r]
  obtain ⟨hz, hS, kvs, rel, dd⟩ := dk_of I.hok ha
  obtain ⟨ep, hat⟩ : ∃ ep, s.heap.DictAt (mixKind X.prog X.w) a kvs ep := dd.dictAt
  have hlen : kvs.length ≤ sizeLine := by rw [← rel.length]; exact hz
  have K := kdl_dict (prog := X.prog) (w := X.w) (knd := mixKind X.prog X.w) (kvs := kvs) (ep := ep) hS
  refine call_function_entry kind_sorted plain_sorted entry_sorted (args_sorted1 _) ?_
  unfold Builtin.«sorted»
  refine wpAny_bind (m := checkCount "sorted" 1 1 _) (wpAny_pure ?_)
  refine wpAny_bind (kdu_collect (A := X.A.in1) K (I.ok.hd hc) hat hlen fun h' tk acc hk hacc => ?_)
  have hl : acc.toList.length = kvs.length := by rw [Array.length_toList]; exact hacc.1
  have hi : IntsAre acc.toList (ks.map (·.1)) := ints_ofK (by rw [kv_ints rel, List.map_map]; rfl) hl fun j v e => hacc.2 j v (by rw [← Array.getElem?_toList]; exact e)
  refine wpAny_bind (wpAny_newList ?_ (by rw [hl]; exact hlen))
  have I1 := I.kept (t' := tk) hk
  have hg : (h'.push (seqObj "list" acc.toList.toArray 0)).get? h'.objs.size = some (seqObj "list" acc.toList.toArray 0) := Heap.get?_push_size _ rfl
  refine wpAny_bind (wpAny_holding (wpAny_call_entry slot_list_sort ⟨_, hg, rfl⟩ entry_list_sort (SrtO.list_sort_ord SrtO.swo_int hg (by rw [hl]; exact hlen) (fun h2 => SrtO.ints_sortable hi h2) fun out h1 h2 => ⟨_, rfl, ?_⟩) (args_list_sort _)))
  obtain ⟨k1, k2, k3⟩ := SrtO.ints_out hi h1 h2
  obtain ⟨e, he'⟩ := PyProof.Rows.sortedHeap_at (vs := acc.toList) (out := out.toArray) hg
  have hlo : ((out.map SrtO.iv).map V.int).length ≤ sizeLine := by
    rw [List.length_map, k2.length_eq, List.length_map]
    unfold ikv at hz
    rw [List.length_map] at hz
    exact hz
  refine wpAny_pure ⟨_, rfl, ⟨.ref _, upd H h'.objs.size (.lst ((out.map SrtO.iv).map V.int)), I1.laid (t' := tk) (a := h'.objs.size) (fun b u hu => ?_) (Nat.le_refl _) ⟨hlo, out, e, vals_of_ints k1, he'⟩, rfl, q _ _ k2 k3 (I1.hok.fresh (Nat.le_refl _))⟩⟩
  have hlt := Heap.lt_size hu
  rw [PyProof.Rows.sortedHeap_old (Nat.ne_of_lt hlt) (by rw [size_push']; exact Nat.lt_succ_of_lt hlt)]
  exact Heap.get?_push_of_some _ hu
end
end L2
namespace L2
open PySem PySem.Spec PyProof.Rows PySem.W PySem.Calls
noncomputable def valuesO (p d : Addr) : HO := .ext fun h => h.IsValuesView p d
theorem valuesO_ok {P : Program} {w : World} {H : Hp} {h : Heap} {p d : Addr} (e : h.get? p = some { cls := .type "dict_values", data := .fields #[.ref d] }) : ObjOk P w H h p (valuesO p d) :=
  ⟨⟨_, e, rfl, rfl⟩, ⟨_, e⟩, fun h1 h2 x k => let ⟨o, ho, r⟩ := x; ⟨o, k o ho, r⟩⟩
theorem sqL_mono {K : PySem.W.Frag} {H H' : Hp} {a : Addr} {xs : List V} (s : ∀ b o, H b = some o → H' b = some o) (h : SqL K H a xs) : SqL K H' a xs := by
  unfold SqL at h ⊢
  rcases h with h | h
  · exact .inl (h.imp (s _ _) fun ⟨o, e⟩ => ⟨o, s _ _ e⟩)
  · exact .inr h
theorem sqT_mono {K : PySem.W.Frag} {H H' : Hp} {a : Addr} {xs : List V} (s : ∀ b o, H b = some o → H' b = some o) (h : SqT K H a xs) : SqT K H' a xs := by
  unfold SqT at h ⊢
  rcases h with h | h
  · exact .inl (h.imp (s _ _) fun ⟨o, e⟩ => ⟨o, s _ _ e⟩)
  · exact .inr h
mutual
theorem dp_mono {K : PySem.W.Frag} {H H' : Hp} (s : ∀ b o, H b = some o → H' b = some o) : ∀ {v : V} {d : PyData}, Dp K H v d → Dp K H' v d
  | _, _, .int z => .int z
  | _, _, .str z => .str z
  | _, _, .bl z => .bl z
  | _, _, .non => .non
  | _, _, .lst h r => .lst (sqL_mono s h) (dp_monos s r)
  | _, _, .tup h r => .tup (sqT_mono s h) (dp_monos s r)
theorem dp_monos {K : PySem.W.Frag} {H H' : Hp} (s : ∀ b o, H b = some o → H' b = some o) : ∀ {vs : List V} {ds : List PyData}, DpAll K H vs ds → DpAll K H' vs ds
  | _, _, .nil => .nil
  | _, _, .cons h r => .cons (dp_mono s h) (dp_monos s r)
end
section
variable {X : Cx} {pins : List (Addr × Obj)} {σ : St} {H : Hp} {s : Shared}
theorem Inv.adopt {T : Addr} {ob : HO} (I : Inv X pins σ H s) (fp : FpOk X pins H T) (new : ObjOk X.prog X.w (upd H T ob) s.heap T ob) : Inv X pins σ (upd H T ob) s := by
  have hn : H T = none := fp.1
  refine I.step (g' := s.gens) (d' := s.drawn) (t' := s.toks) (h' := s.heap) (ch := [T]) (fun b hb => by rw [List.mem_singleton.mp hb]; exact ⟨fp.2.2.2.1, fp.2.1, fp.2.2.2.2.1, fp.2.2.2.2.2⟩) (fun b o _ _ _ e _ => e) (fun b o _ _ _ e _ => ⟨o.slots, e⟩)
    (fun b o hb e n => ?_) (fun b o _ e => ⟨o, e⟩) (fun b xs e => ?_) (fun b o u e => ?_) (fun b ps e => ⟨#[], ?_⟩) (fun m hm => hm) (fun b u e => ?_) I.bare
  · rw [upd_ne (fun z => hb (List.mem_singleton.mpr z))]; exact n
  · rw [upd_ne (ne_of_none e hn)]; exact e
  · rw [upd_ne (ne_of_none e hn)]; exact e
  · rw [upd_ne (ne_of_none e hn), e]; simp
  · by_cases hb : b = T
    · subst hb
      rw [upd_same] at e
      cases e
      exact new
    · rw [upd_ne hb] at e
      exact (I.hok b u e).stay (fun c v hc q => q) (fun c q => by rw [upd_ne (ne_of_none q hn)]; exact q) fun c xs q => by rw [upd_ne (ne_of_none q hn)]; exact q
end
section
variable {X : Cx}
noncomputable def rValuesT : V → List V → Hp → VK → Prop := fun x xs H Q => ∃ (a : Addr) (kvs : List (List L2.Key × V)), x = .ref a ∧ xs = [] ∧ H a = some (.dT kvs) ∧ ∀ p, H p = none → Q (.ref p) (upd H p (valuesO p a))
theorem mt_valuesT : MtR X "dict.values" rValuesT := by
  intro pins s σ H x xs v us Q I rx rxs h
  obtain ⟨a, kvs, rfl, rfl, ha, q⟩ := h
  cases rx
  cases rxs
  obtain ⟨z, hd, xs', rel, o, es, ep, ho, hx, hdat, _⟩ := dt_of I.hok ha
  refine call_meetsIn F.slot_dict_values ⟨o, ho, hx.1⟩ F.entry_dict_values (F.args_dict_values_1 _) (meets_dict_values_raw a hd) ⟨⟨es, ep, o, ho, hx, hdat⟩, ?_⟩
  have hf : H s.heap.objs.size = none := I.hok.fresh (Nat.le_refl _)
  exact ⟨.ref s.heap.objs.size, upd H s.heap.objs.size (valuesO s.heap.objs.size a), I.laid (t' := s.toks) (fun b u e => Heap.get?_push_of_some _ e) (Nat.le_refl _) (valuesO_ok (Heap.get?_push_size _ rfl)), rfl, q _ hf⟩
noncomputable def rSVK (X : Cx) {β : Type} (k : β → PyData) : List V → List V → Hp → VK → Prop := fun xs zs H Q => ∃ (p a fa : Addr) (kvs : List (List L2.Key × V)) (bs : List β) (Rb : V → β → Prop), xs = [.ref p] ∧ zs = [.ref fa] ∧ H p = some (valuesO p a) ∧ H a = some (.dT kvs) ∧ Paired (fun q x => Rb q.2 x) kvs bs ∧ AllAlike (bs.map k) ∧ Sortable (bs.map k) ∧ (∀ d ∈ bs.map k, d.depth ≤ 64) ∧
  (∀ (v : V) (u : Value) (x : β), RelV v u → Rb v x → x ∈ bs → ∀ (H' : Hp) (pins' : List (Addr × Obj)) (σ' : St) (s' : Shared), (∀ c o, H c = some o → H' c = some o) → Inv X pins' σ' H' s' → ∀ Qk : VK, (∀ v H'', (∀ c o, H' c = some o → H'' c = some o) → Dp X.K H'' v (k x) → Qk v H'') →
    wpAny (model X.prog X.w) X.A.in1.in1 (call (.ref fa) [u]) (EP X pins' σ' Qk) (fun _ _ => False) s') ∧
  ∀ (H' : Hp) (vs : List V) (T : Addr), (∀ b o, H b = some o → H' b = some o) → Paired Rb vs (bs.mergeSort (dataLe false k)) → H' T = none → Q (.ref T) (upd H' T (.lst vs))
theorem each_vals {β : Type} {Rb : V → β → Prop} {us : List Value} {ys : List β} (h : EachIs (fun u x => ∃ v, RelV v u ∧ Rb v x) us ys) : ∃ vs, Vals vs us ∧ Paired Rb vs ys := by
  induction h with
  | nil => exact ⟨[], .nil, .nil⟩
  | cons h1 h2 ih =>
    obtain ⟨v, r1, r2⟩ := h1
    obtain ⟨vs, i1, i2⟩ := ih
    exact ⟨v :: vs, .cons r1 i1, .cons r2 i2⟩
theorem kt_each {H : Hp} {β : Type} {Rb : V → β → Prop} {kvs : List (List L2.Key × V)} {xs : List (List L2.Key × Addr × Value)} (h : KT H kvs xs) : ∀ {bs : List β}, Paired (fun q x => Rb q.2 x) kvs bs → EachIs (fun u x => ∃ v, RelV v u ∧ Rb v x) (xs.map fun x => x.2.2) bs := by
  induction h with
  | nil => intro bs pb; cases pb; exact .nil
  | @cons p q ps qs h t ih =>
    intro bs pb
    cases pb with
    | cons r rs => exact .cons ⟨p.2, h.2.2, r⟩ (ih rs)
theorem cr_sortVK {β : Type} (k : β → PyData) (hc : X.calm = true) (hu : X.A.units + 100 < cLine) : CallRK X (.builtin "sorted") ["key"] (rSVK X k) := by
  intro pins s σ H xs zs us ws Q I r1 r2 h
  obtain ⟨p, a, fa, kvs, bs, Rb, rfl, rfl, hp, ha, pb, hal, hsk, hdp, turn, q⟩ := h
  rw [Vals.ref1 r1, Vals.ref1 r2]
  have view : s.heap.IsValuesView p a := (show ObjOk X.prog X.w H s.heap p (valuesO p a) from I.hok p _ hp).1
  obtain ⟨z, hd, xs', rel, o, es, ep, ho, hx, hdat, hes, his, hn⟩ := dt_of I.hok ha
  have l2 : es.size = xs'.length := size_of_entries hes
  have l1 : kvs.length = xs'.length := Paired.length rel
  have l3 : kvs.length = bs.length := Paired.length pb
  have K := PySem.KdlSrc.rawValues (prog := X.prog) (w := X.w) (r := p) (d := a) (es := es) (ep := ep)
  show wpAny _ _ (call (.builtin "sorted") [.ref p] [(Str.ofString "key", .ref fa)]) _ _ _
  refine sorted_valsKey (k := k) (bs := bs) (R := fun u x => ∃ v, RelV v u ∧ Rb v x) K (I.ok.hd hc) I ⟨view, o, ho, hx, hdat⟩ (by omega) (by omega) (fun vs hl hv => ?_) hal hsk (fun d hd' => by have := hdp d hd'; omega) (fun u x ⟨v, rv, rb⟩ hxm H' pins' s' hs I' Qk hQ => turn v u x rv rb hxm H' pins' σ s' hs I' Qk hQ) (fun H' H'' v d hs hd' => dp_mono hs hd') fun H' s' out T c hs I' fp hg hE => ?_
  · have e : vs = xs'.map fun x => x.2.2 := by
      refine List.ext_getElem? fun j => ?_
      rw [List.getElem?_map]
      cases hj : vs[j]? with
      | none =>
        have : xs'.length ≤ j := by have := List.getElem?_eq_none_iff.mp hj; omega
        rw [List.getElem?_eq_none this]; rfl
      | some v =>
        obtain ⟨hi, rfl⟩ := hv j v hj
        have h1 := entry_at hes j
        rw [Array.getElem?_eq_getElem hi] at h1
        cases hk : xs'[j]? with
        | none => rw [hk] at h1; cases h1
        | some y =>
          rw [hk] at h1
          have h1 : es[j] = entryOfKey (tupleKind (mixKind X.prog X.w)) y := Option.some.inj h1
          rw [h1]; rfl
    rw [e]
    exact kt_each rel pb
  · obtain ⟨vs, rv, pr⟩ := each_vals hE
    have hlen : vs.length ≤ sizeLine := by
      rw [Paired.length pr, List.length_mergeSort]; omega
    exact ⟨.ref T, upd H' T (.lst vs), I'.adopt fp ⟨hlen, out, c, rv, hg⟩, rfl, q H' vs T hs pr fp.1⟩
end
end L2
namespace Tw
open PySem PySem.Spec PyProof.Rows L2 TL
theorem paired_map2 {A B C : Type} {R : B → C → Prop} {f : A → B} {g : A → C} : ∀ {l : List A}, (∀ x ∈ l, R (f x) (g x)) → Paired R (l.map f) (l.map g)
  | [], _ => .nil
  | x :: l, h => .cons (h x (List.mem_cons_self ..)) (paired_map2 fun y hy => h y (List.mem_cons_of_mem _ hy))
theorem tl_mul {x : Tx} {n : Int} (h0 : 0 ≤ n) : Txt.mul (sx x) n = sx (List.replicate n.toNat x).flatten := by
  unfold Txt.mul
  by_cases h : n < 1
  · rw [if_pos h, show n.toNat = 0 by omega]; rfl
  · rw [if_neg h]
    split
    · rename_i hc
      rw [Bool.or_eq_true, beq_iff_eq, beq_iff_eq] at hc
      rcases hc with rfl | hc
      · show sx x = sx (List.replicate 1 x).flatten
        rw [List.replicate_one, List.flatten_singleton]
      · have : x = [] := by
          rw [sx_len] at hc
          exact List.length_eq_zero_iff.mp hc
        subst this
        congr 1
        exact (List.flatten_replicate_nil).symm
    · have go : ∀ (m : Nat) (acc : Array Nat), (List.replicate m x.toArray).foldl (· ++ ·) acc = acc ++ (List.replicate m x).flatten.toArray := fun m => by
        induction m with
        | zero => intro acc; simp
        | succ m ih =>
          intro acc
          rw [List.replicate_succ, List.foldl_cons, ih, List.replicate_succ, List.flatten_cons]
          simp
      show (⟨(List.replicate n.toNat x.toArray).foldl (· ++ ·) #[]⟩ : Str) = ⟨(List.replicate n.toNat x).flatten.toArray⟩
      rw [go]
      simp
section
variable {X : Cx}
theorem o_mulT {x : Tx} {n : Int} (hx : x.length ≤ 16) (h0 : 0 ≤ n) (h1 : n ≤ 1048576) : OB X (binaryOp .Mult) x n (List.replicate n.toNat x).flatten := fun F H v u Q s r1 r2 q pins s' σ va vb I rv1 rv2 => by
  obtain rfl : v = .str (sx x) := r1
  obtain rfl : u = .int n := r2
  obtain ⟨t, rfl⟩ := rv1
  obtain ⟨t2, rfl⟩ := rv2
  refine PySem.W.KXi.mul (n := x.length) (sx_len x) hx (by omega) h1 fun t' k _ _ => ?_
  rw [tl_mul h0]
  exact ⟨.str (sx (List.replicate n.toNat x).flatten), H, I.tok _, ⟨_, rfl⟩, q _ F H (Ext.refl s) rfl⟩
end
noncomputable abbrev gAd {α : Type} (p : Int × Addr × List α) : Addr := p.2.1
noncomputable abbrev gKy {α : Type} (p : Int × Addr × List α) : Int := p.1
noncomputable abbrev gKv {α : Type} (p : Int × Addr × List α) : Int × V := (p.1, V.ref p.2.1)
theorem nodup_key {A B : Type} {f : A → B} : ∀ {l : List A}, (l.map f).Nodup → ∀ {a b : A}, a ∈ l → b ∈ l → f a = f b → a = b
  | [], _, _, _, h, _, _ => (List.not_mem_nil h).elim
  | y :: l, nd, a, b, ha, hb, e => by
    rw [List.map_cons, List.nodup_cons] at nd
    rcases List.mem_cons.mp ha with h1 | h1 <;> rcases List.mem_cons.mp hb with h2 | h2
    · rw [h1, h2]
    · exact absurd (List.mem_map.mpr ⟨b, h2, by rw [← e, h1]⟩) nd.1
    · exact absurd (List.mem_map.mpr ⟨a, h1, by rw [e, h2]⟩) nd.1
    · exact nodup_key nd.2 h1 h2 e
noncomputable def ownG {α : Type} (i : Rep α) (a : Addr) (l : List (Int × Addr × List α)) : Own where
  fp := a :: l.map gAd
  root := .ref a
  ok := fun K F H v => v = .ref a ∧ (a :: l.map gAd).Nodup ∧ (l.map gKy).Nodup ∧ H a = some (.dK (ikv (l.map gKv))) ∧ ∀ p ∈ l, ∃ vs, H p.2.1 = some (.lst vs) ∧ Paired (fun u x => i.rp K F u x) vs p.2.2
  stay := fun s k ⟨e, n1, n2, h, hl⟩ => ⟨e, n1, n2, k a (List.mem_cons_self ..) _ h, fun p hp => by
    obtain ⟨vs, h1, h2⟩ := hl p hp
    exact ⟨vs, k p.2.1 (List.mem_cons_of_mem _ (List.mem_map.mpr ⟨p, hp, rfl⟩)) _ h1, Paired.mapP h2 fun _ _ q => i.mono s q⟩⟩
  there := fun ⟨_, _, _, h, hl⟩ b hb z => by
    rcases List.mem_cons.mp hb with rfl | hb
    · rw [h] at z; cases z
    · obtain ⟨p, hp, rfl⟩ := List.mem_map.mp hb
      obtain ⟨vs, h1, _⟩ := hl p hp
      rw [h1] at z; cases z
  rt := fun h => h.1
theorem frozG {α : Type} {i : Rep α} {a : Addr} {l : List (Int × Addr × List α)} : Froz (ownG i a l) (Dic.mk (l.map fun p => (p.1, p.2.2)) : Dic Int (List α)) := fun {K F H v} s ⟨e, _, _, h, hl⟩ f => by
  refine ⟨a, l.map gKv, e, (show frz F H (ownG i a l).fp a = some (.dK (ikv (l.map gKv))) from (frz_in (List.mem_cons_self ..)).trans h), paired_map2 fun p hp => ⟨rfl, ?_⟩⟩
  obtain ⟨vs, h1, h2⟩ := hl p hp
  exact ⟨p.2.1, vs, rfl, (frz_in (List.mem_cons_of_mem _ (List.mem_map.mpr ⟨p, hp, rfl⟩))).trans h1, Paired.mapP h2 fun _ _ q => i.mono (frz_le f) q⟩
noncomputable def addG {α : Type} (l : List (Int × Addr × List α)) (k : Int) (b : Addr) (x : α) : List (Int × Addr × List α) :=
  if (l.any fun p => decide (p.1 = k)) = true then l.map fun p => if p.1 = k then (p.1, p.2.1, p.2.2 ++ [x]) else p else l ++ [(k, b, [x])]
theorem ikv_val {α : Type} {l : List (Int × Addr × List α)} {k : Int} : (∃ p ∈ l, p.1 = k ∧ valV (ikv (l.map gKv)) (.inl k) = some (V.ref p.2.1) ∧ (l.any fun p => decide (p.1 = k)) = true) ∨ (valV (ikv (l.map gKv)) (.inl k) = none ∧ (l.any fun p => decide (p.1 = k)) = false) := by
  have inj : ∀ x y : Int, (Sum.inl x : Key) = Sum.inl y → x = y := fun x y h => Sum.inl.inj h
  have e : valV (ikv (l.map gKv)) (.inl k) = valV (l.map gKv) k := valV_inj (e := fun x : Int => (Sum.inl x : Key)) inj k _
  rw [e]
  clear e
  induction l with
  | nil => exact .inr ⟨rfl, rfl⟩
  | cons p l ih =>
    by_cases h : p.1 = k
    · exact .inl ⟨p, List.mem_cons_self .., h, valV_pos h, by rw [List.any_cons, decide_eq_true h]; rfl⟩
    · rw [List.map_cons, valV_neg h, List.any_cons, decide_eq_false h, Bool.false_or]
      rcases ih with ⟨q, hq, h1, h2, h3⟩ | h1
      · exact .inl ⟨q, List.mem_cons_of_mem _ hq, h1, h2, h3⟩
      · exact .inr h1
section
variable {X : Cx} {Γ : List Slot} {α β γ : Type} {i : Rep α} {j : Rep β} {lr : Rep γ} {pos p p2 p3 : Pos} {e a b c ek ex : Expr} {es : List Expr} {E : SE} {rest : List Stmt}
theorem st_setG0 (i : Rep α) (k : Nat) {n : Str} {p3 spos : Pos} (hr : ∀ ad, ST X rest (Γ.set k (.own (ownG i ad []))) E) (hN : X.N.Nodup) (hi : autoParam (X.N[k]? = some n) aRfl) (hx : autoParam (L2.Loc X.env.scope n) aLoc) (hs : autoParam (swapsWith (.Dict [] [] pos) (some (.Name n p3)) spos.line X.env = pure false) aRfl) (hf : autoParam (X.fn n = true ∨ X.env.scope.names.lookup n = some .local) Tw.aFn) :
    ST X (.Assign [.Name n p3] (.Dict [] [] pos) spos :: rest) Γ E :=
  st_setO k (P0 := fun o => ∃ ad, o = ownG i ad []) (fun B F H σ Q L q => WE.of (dkInt.empty X pos) fun p hp => q _ (.ref p) F _ rfl (Ext.apart L.same hp) ⟨ownG i p [], ⟨p, rfl⟩, fun b hb => by rw [List.mem_singleton.mp hb]; exact ⟨hp, L.same.free hp⟩, rfl, by simp, by simp, upd_same, fun _ z => (List.not_mem_nil z).elim⟩) (fun o ⟨ad, ho⟩ => by rw [ho]; exact hr ad) hN hi hx hs hf
theorem addG_fp {l : List (Int × Addr × List α)} {k : Int} {b : Addr} {x : α} (h : (l.any fun p => decide (p.1 = k)) = true) : (addG l k b x).map gAd = l.map gAd ∧ (addG l k b x).map gKy = l.map gKy := by
  unfold addG
  rw [if_pos h, List.map_map, List.map_map]
  refine ⟨List.map_congr_left fun p _ => ?_, List.map_congr_left fun p _ => ?_⟩ <;> simp only [Function.comp] <;> split <;> rfl
theorem st_setdApp (m : Nat) {n : Str} {ad : Addr} {l : List (Int × Addr × List α)} {kk : Int} {x : α} {ap1 cp1 lp ap2 cp2 : Pos} (hk : EV X Γ ek kk) (hx : EV X (Γ.set m .no) ex x) (hz : l.length < sizeLine) (hz2 : ∀ p ∈ l, p.2.2.length < sizeLine) (hr : ∀ b, ST X rest (Γ.set m (.own (ownG i ad (addG l kk b x)))) E)
    (hg : autoParam (Γ[m]? = some (.own (ownG i ad l))) aRfl) (hN : autoParam (X.N[m]? = some n) aRfl) (hv : autoParam (Vis X.env.scope n) aVis) (hd : autoParam ((n == ("__debug__" : Str)) = false) aDec) (hcd : autoParam ((n == ("__classdict__" : Str)) = false) aDec)
    (hb1 : autoParam (attributeBase (.Name n p) "setdefault" X.env (eval (.Name n p) X.env) = eval (.Name n p) X.env) aRfl)
    (hf1 : autoParam (((backTo cp1 (starEach [ek, .List [] lp] X.env)).all (fun x => !x.1) && (backToKw cp1 (keywordEach [] X.env)).all (fun x => x.1.isSome) && decide (([ek, .List [] lp] : List Expr).length + ([] : List Keyword).length + (if ([] : List Keyword).isEmpty then 0 else 1) < 30)) = true) aRfl)
    (hl1 : autoParam ((ap1.endLine == cp1.line) = true) aRfl) (ht1 : autoParam (backTo cp1 (starEach [ek, .List [] lp] X.env) = [(false, eval ek X.env), (false, eval (.List [] lp) X.env)]) aRfl)
    (hb2 : autoParam (attributeBase (.Call (.Attribute (.Name n p) "setdefault" ap1) [ek, .List [] lp] [] cp1) "append" X.env (eval (.Call (.Attribute (.Name n p) "setdefault" ap1) [ek, .List [] lp] [] cp1) X.env) = eval (.Call (.Attribute (.Name n p) "setdefault" ap1) [ek, .List [] lp] [] cp1) X.env) aRfl)
    (hf2 : autoParam (((backTo cp2 (starEach [ex] X.env)).all (fun x => !x.1) && (backToKw cp2 (keywordEach [] X.env)).all (fun x => x.1.isSome) && decide ([ex].length + ([] : List Keyword).length + (if ([] : List Keyword).isEmpty then 0 else 1) < 30)) = true) aRfl)
    (hl2 : autoParam ((ap2.endLine == cp2.line) = true) aRfl) (hs : autoParam (starEach [ex] X.env = (false, eval ex X.env) :: starEach [] X.env) aStar) (hplain : autoParam ((backTo cp2 (starEach [] X.env)).any (·.1) = false) aRfl)
    (hsw : autoParam (swapsWith (.Call (.Attribute (.Call (.Attribute (.Name n p) "setdefault" ap1) [ek, .List [] lp] [] cp1) "append" ap2) [ex] [] cp2) none pos.line X.env = pure false) aRfl) :
    ST X (.Expr (.Call (.Attribute (.Call (.Attribute (.Name n p) "setdefault" ap1) [ek, .List [] lp] [] cp1) "append" ap2) [ex] [] cp2) pos :: rest) Γ E := fun B F H σ D L ed => by
  obtain ⟨v0, ea, ⟨rfl, _, _, ha, _⟩, _⟩ := slot_own L hg
  refine WP.cons (ps_expr (pe_bm PySem.F.plainAttrs_list PySem.F.slot_list_append PySem.F.type_list_append mt_append (pe_dsetd (pe_var hN hv hd hcd) peW peW ⟨hb1, hf1, hl1, ht1⟩) (pa_cons peW pa_nil hs) hb2 hf2 hl2 hs hplain) hsw) ?_
  refine ⟨_, ea, ad, rfl, .inl ⟨_, .inl ha⟩, hk B F H σ _ L fun y F1 H1 e1 r1 => ?_⟩
  obtain rfl : y = V.int kk := r1
  have L1 := L.step e1
  refine en_nil α B F1 H1 σ _ L1 fun b vs F2 H2 e2 hb fb h2 pr2 => ?_
  cases pr2
  have L2 := L1.step e2
  obtain ⟨v2, ea2, ⟨rfl, nd2, nk2, ha2, hl2'⟩, fo2⟩ := slot_own L2 hg
  refine ⟨_, .inl kk, ha2, rfl, ?_, fun w hw => ?_, fun hn => ?_⟩
  · unfold ikv; rw [List.length_map, List.length_map]; exact hz
  · rcases ikv_val (l := l) (k := kk) with ⟨q, hq, hqk, hqv, hany⟩ | ⟨hno, _⟩
    · rw [hqv] at hw
      obtain rfl := Option.some.inj hw
      obtain ⟨vs1, hv1, _⟩ := hl2' q hq
      refine ⟨.inl ⟨rfl, _, .inl (.inl hv1)⟩, ?_⟩
      have Ln : Lc X.K B F2 H2 σ (Γ.set m .no) := L2.le ⟨by simp, fun t s hs => by
        rcases get_set_slot hs with ⟨e1, _, rfl⟩ | ⟨_, hs⟩
        · exact .inl rfl
        · exact .inr hs⟩
      refine hx B F2 H2 σ _ Ln fun u F3 H3 e3 r3 => ?_
      have L3 := L2.step e3
      obtain ⟨v3, ea3, ⟨rfl, nd3, nk3, ha3, hl3⟩, fo3⟩ := slot_own L3 hg
      obtain ⟨vs3, hv3, pr3⟩ := hl3 q hq
      refine ⟨q.2.1, vs3, u, rfl, rfl, hv3, by rw [Paired.length pr3]; exact hz2 q hq, ?_⟩
      obtain ⟨f1, f2⟩ := addG_fp (l := l) (k := kk) (b := b) (x := x) hany
      have hqa : q.2.1 ≠ ad := fun z => (List.nodup_cons.mp nd3).1 (List.mem_map.mpr ⟨q, hq, z⟩)
      refine hr b B F3 _ σ D (L3.updO hg ea3 (fun c w hc hw => ?_) (fun c hc => ?_) (fun c hc => .inl ?_) ⟨rfl, by rw [f1]; exact nd3, by rw [f2]; exact nk3, ?_, fun p' hp' => ?_⟩) (ed.weak (e1.ff.trans (e2.ff.trans e3.ff)))
      · rw [upd_ne fun z => hc (List.mem_cons_of_mem _ (List.mem_map.mpr ⟨q, hq, z.symm⟩))]; exact hw
      · by_cases hcq : c = q.2.1
        · rw [hcq, upd_same]; exact fun z => nomatch z
        · rw [upd_ne hcq]
          rcases List.mem_cons.mp hc with rfl | hc
          · rw [ha3]; exact fun z => nomatch z
          · obtain ⟨p', hp', rfl⟩ := List.mem_map.mp hc
            obtain ⟨vs', h', _⟩ := hl3 p' hp'
            rw [h']; exact fun z => nomatch z
      · have : c ∈ ad :: (addG l kk b x).map gAd := hc
        rw [f1] at this
        exact this
      · rw [upd_ne hqa.symm, ha3]
        have : (addG l kk b x).map gKv = l.map gKv := by
          unfold addG
          rw [if_pos hany, List.map_map]
          refine List.map_congr_left fun p _ => ?_
          simp only [Function.comp]
          split <;> rfl
        rw [this]
      · unfold addG at hp'
        rw [if_pos hany] at hp'
        obtain ⟨p0, hp0, rfl⟩ := List.mem_map.mp hp'
        by_cases hpk : p0.1 = kk
        · have e0 : p0 = q := by
            exact nodup_key nk3 hp0 hq (hpk.trans hqk.symm)
          subst e0
          rw [if_pos hpk]
          exact ⟨vs3 ++ [u], upd_same, papp pr3 (.cons r3 .nil)⟩
        · rw [if_neg hpk]
          obtain ⟨vs', h', pr'⟩ := hl3 p0 hp0
          refine ⟨vs', ?_, pr'⟩
          rw [upd_ne fun z => ?_]
          · exact h'
          · have nd' := (List.nodup_cons.mp nd3).2
            exact hpk (by rw [nodup_key nd' hp0 hq z]; exact hqk)
    · rw [hno] at hw; cases hw
  · rcases ikv_val (l := l) (k := kk) with ⟨q, hq, hqk, hqv, hany⟩ | ⟨_, hany⟩
    · rw [hqv] at hn; cases hn
    · have hb1n : ∀ c ∈ (ownG i ad l).fp, c ≠ b := fun c hc z => by
        obtain ⟨v1, _, ok1, _⟩ := slot_own L1 hg
        exact (ownG i ad l).there ok1 c hc (by rw [z]; exact hb)
      have hbad : ad ≠ b := hb1n ad (List.mem_cons_self ..)
      have eput : putK (ikv (l.map gKv)) (.inl kk) (V.ref b) = ikv ((l ++ [(kk, b, ([] : List α))]).map gKv) := by
        have inj : ∀ x y : Int, (Sum.inl x : Key) = Sum.inl y → x = y := fun x y h => Sum.inl.inj h
        have e0 := putK_inj (e := fun x : Int => (Sum.inl x : Key)) inj kk (V.ref b) (l.map gKv)
        show putK (ikv _) ((fun x : Int => (Sum.inl x : Key)) kk) (V.ref b) = _
        unfold ikv
        rw [e0, List.map_append]
        unfold putK
        rw [if_neg (by rw [List.any_map]; show ¬ (l.any fun p => decide (p.1 = kk)) = true; rw [hany]; decide)]
        rfl
      rw [eput]
      have Lm : Lc X.K B F2 (upd H2 ad (.dK (ikv ((l ++ [(kk, b, ([] : List α))]).map gKv)))) σ (Γ.set m (.own (ownG i ad (l ++ [(kk, b, [])])))) := by
        refine L2.updO2 hg ea2 (fun c w hc hw => ?_) (fun c hc => ?_) (fun c hc => ?_) ⟨rfl, ?_, ?_, upd_same, fun p' hp' => ?_⟩
        · rw [upd_ne fun z => hc (by rw [z]; exact List.mem_cons_self ..)]; exact hw
        · by_cases hcq : c = ad
          · rw [hcq, upd_same]; exact fun z => nomatch z
          · rw [upd_ne hcq]; exact (ownG i ad l).there ⟨rfl, nd2, nk2, ha2, hl2'⟩ c hc
        · have hc : c ∈ ad :: (l ++ [(kk, b, ([] : List α))]).map gAd := hc
          rw [List.map_append] at hc
          rcases List.mem_cons.mp hc with hc | hc
          · exact .inl (by rw [hc]; exact List.mem_cons_self ..)
          · rcases List.mem_append.mp hc with hc | hc
            · exact .inl (List.mem_cons_of_mem _ hc)
            · have hc : c = b := List.mem_singleton.mp hc
              subst hc
              refine .inr ⟨fb, L1.nw hb, fun q o2 ho2 hb2 => ?_⟩
              obtain ⟨_, _, ok2, _⟩ := slot_own L1 ho2
              exact o2.there ok2 c hb2 hb
        · rw [List.map_append, ← List.cons_append, List.nodup_append]
          refine ⟨nd2, by simp, fun a1 h1 a2 h2 => ?_⟩
          rw [List.mem_singleton.mp h2]
          exact hb1n a1 h1
        · rw [List.map_append, List.nodup_append]
          refine ⟨nk2, by simp, fun a1 h1 a2 h2 z => ?_⟩
          rw [List.mem_singleton.mp h2] at z
          obtain ⟨p1, hp1, rfl⟩ := List.mem_map.mp h1
          have := List.any_eq_false.mp hany p1 hp1
          rw [decide_eq_true_eq] at this
          exact this z
        · rcases List.mem_append.mp hp' with hp' | hp'
          · obtain ⟨vs', h', pr'⟩ := hl2' p' hp'
            refine ⟨vs', ?_, pr'⟩
            rw [upd_ne fun z => (List.nodup_cons.mp nd2).1 (List.mem_map.mpr ⟨p', hp', z⟩)]; exact h'
          · rw [List.mem_singleton.mp hp']
            refine ⟨[], ?_, .nil⟩
            rw [upd_ne hbad.symm]; exact h2
      have hgm : (Γ.set m (.own (ownG i ad (l ++ [(kk, b, ([] : List α))]))))[m]? = some (.own (ownG i ad (l ++ [(kk, b, [])]))) := by
        rw [List.getElem?_set_self (List.getElem?_eq_some_iff.mp hg).1]
      refine ⟨.inl ⟨rfl, _, .inl (.inl (by rw [upd_ne hbad.symm]; exact h2))⟩, ?_⟩
      have Ln : Lc X.K B F2 (upd H2 ad (.dK (ikv ((l ++ [(kk, b, ([] : List α))]).map gKv)))) σ (Γ.set m .no) := Lm.le ⟨by simp, fun t s hs => by
        rcases get_set_slot hs with ⟨e1, _, rfl⟩ | ⟨hne, hs⟩
        · exact .inl rfl
        · exact .inr (by rw [List.getElem?_set_ne hne]; exact hs)⟩
      refine hx B F2 _ σ _ Ln fun u F3 H3 e3 r3 => ?_
      have L3 := Lm.step e3
      obtain ⟨v3, ea3, ⟨rfl, nd3, nk3, ha3, hl3⟩, fo3⟩ := slot_own L3 hgm
      obtain ⟨vs3, hv3, pr3⟩ := hl3 (kk, b, []) (List.mem_append_right _ (List.mem_singleton.mpr rfl))
      cases pr3
      refine ⟨b, [], u, rfl, rfl, hv3, by show 0 < _; decide, ?_⟩
      have eadd : addG l kk b x = l ++ [(kk, b, [x])] := by
        unfold addG
        rw [if_neg (by rw [hany]; decide)]
      have key : Lc X.K B F3 (upd H3 b (.lst ([] ++ [u]))) σ ((Γ.set m (.own (ownG i ad (l ++ [(kk, b, ([] : List α))])))).set m (.own (ownG i ad (addG l kk b x)))) := by
        rw [eadd]
        have ef : (l ++ [(kk, b, [x])]).map gAd = (l ++ [(kk, b, ([] : List α))]).map gAd := by rw [List.map_append, List.map_append]; rfl
        refine L3.updO hgm ea3 (fun c w hc hw => ?_) (fun c hc => ?_) (fun c hc => .inl ?_) ⟨rfl, by rw [ef]; exact nd3, ?_, ?_, fun p' hp' => ?_⟩
        · rw [upd_ne fun z => hc (List.mem_cons_of_mem _ (List.mem_map.mpr ⟨(kk, b, []), List.mem_append_right _ (List.mem_singleton.mpr rfl), z.symm⟩))]; exact hw
        · by_cases hcq : c = b
          · rw [hcq, upd_same]; exact fun z => nomatch z
          · rw [upd_ne hcq]; exact (ownG i ad (l ++ [(kk, b, [])])).there ⟨rfl, nd3, nk3, ha3, hl3⟩ c hc
        · have hc : c ∈ ad :: (l ++ [(kk, b, [x])]).map gAd := hc
          rw [ef] at hc
          exact hc
        · have : (l ++ [(kk, b, [x])]).map gKy = (l ++ [(kk, b, ([] : List α))]).map gKy := by rw [List.map_append, List.map_append]; rfl
          rw [this]; exact nk3
        · rw [upd_ne hbad, ha3, List.map_append, List.map_append]; rfl
        · rcases List.mem_append.mp hp' with hp' | hp'
          · obtain ⟨vs', h', pr'⟩ := hl3 p' (List.mem_append_left _ hp')
            refine ⟨vs', ?_, pr'⟩
            rw [upd_ne fun z => hb1n p'.2.1 (List.mem_cons_of_mem _ (List.mem_map.mpr ⟨p', hp', rfl⟩)) z]; exact h'
          · rw [List.mem_singleton.mp hp']
            exact ⟨_, upd_same, .cons r3 .nil⟩
      rw [List.set_set] at key
      exact hr b B F3 _ σ D key (ed.weak (e1.ff.trans (e2.ff.trans e3.ff)))
end
end Tw
namespace Tw
open PySem PySem.Spec PyProof.Rows L2 TL
theorem drel_vals {K : PySem.W.Frag} {F : Hp} {κ μ α : Type} [ik : Rep κ] [DecidableEq κ] {i : Rep α} {e : κ → μ} {kvs : List (κ × V)} {l : List (κ × α)} (h : DRel i K F kvs l) : Paired (fun (q : μ × V) x => i.rp K F q.2 x) (kvs.map fun p => (e p.1, p.2)) (l.map (·.2)) := by
  induction h with
  | nil => exact .nil
  | cons r _ ih => exact .cons r.2 ih
theorem noMA {β : Type} {i : Rep β} {x : β} {b : Addr} : ¬ MA [.val i x] b := fun ⟨o, h, _⟩ => by
  rcases List.mem_cons.mp h with z | z
  · cases z
  · exact (List.not_mem_nil z).elim
theorem apart_v1 {β : Type} {i : Rep β} {x : β} : Apart [.val i x] := fun p q o1 o2 _ h => by
  cases p with
  | zero => cases h
  | succ p => cases h
section
variable {X : Cx} {Γ : List Slot} {α β γ : Type} {i : Rep α} {j : Rep γ} {pos p p2 p3 : Pos} {e a b c : Expr} {es : List Expr} {E : SE} {rest : List Stmt}
theorem ex_sortedD {l : Dic Int α} (hm : X.mg "sorted" = none) (h : EV X Γ e l) (hc : autoParam (X.calm = true) aRfl) (hg : autoParam (Gl X "sorted") aRfl) (hs : autoParam (starEach [e] X.env = (false, eval e X.env) :: starEach [] X.env) aStar) (hpl : autoParam ((backTo pos (starEach [] X.env)).any (·.1) = false) aPl) :
    EX X Γ (.Call (.Name "sorted" p) [e] [] pos) (fun r => ∃ ns : List Int, (ns.Perm (l.l.map (·.1)) ∧ ns.Pairwise (· ≤ ·)) ∧ r = .new repInt ns) := fun B F H σ Q L q =>
  WE.of (pe_callB (cr_sortedDI hc) hg hm (by decide +kernel) (pa_cons peW pa_nil hs) (by decide) (by decide) hs hpl) (h B F H σ _ L fun v F1 H1 e1 r1 => by
    obtain ⟨ad, kvs, rfl, ha, pr⟩ := r1
    have s1 := (L.step e1).same
    refine ⟨ad, kvs, rfl, s1 _ _ ha, fun ns q' hp hw hq => ?_⟩
    have ek : kvs.map (·.1) = l.l.map (·.1) := by
      have : ∀ {ks : List (Int × V)} {m : List (Int × α)}, DRel i X.K F1 ks m → ks.map (·.1) = m.map (·.1) := fun {ks m} r => by
        induction r with
        | nil => rfl
        | cons h t ih => rw [List.map_cons, List.map_cons, ih, h.1]
      exact this pr
    rw [ek] at hp
    exact q (.new repInt ns) (.ref q') F1 _ ⟨ns, ⟨hp, hw⟩, rfl⟩ (e1.trans (Ext.apart s1 hq)) ⟨q', ns.map V.int, rfl, e1.hs.free hq, s1.free hq, upd_same, Rps.of_ints ns⟩)
theorem en_sortedVals (m : Nat) {n fn : Str} {k0 : Nat} {p1 : Str} {S : Spec} {ad : Addr} {l : List (Tup Tx × α)} {kf : α → γ} [h2 : IsD γ] {ap1 cp1 kp kp2 : Pos} (hm : X.mg "sorted" = none) (G : Has X.prog X.w X.K X.mg X.base k0 fn [p1] S) (hr : Room (k0 + 2) X.A)
    (hS : ∀ x ∈ l.map (·.2), ∀ P' R', P' (.val j (kf x)) → S [.val i x] P' R') (hal : PySem.W.AllAlike ((l.map (·.2)).map fun x => (h2.d (kf x)).py)) (hsk : PySem.W.Sortable ((l.map (·.2)).map fun x => (h2.d (kf x)).py)) (hdp : ∀ x ∈ l.map (·.2), ((h2.d (kf x)).py).depth ≤ 64)
    (hgm : autoParam (Γ[m]? = some (.own (ownD (Tup Tx) i ad l))) aRfl) (hN : autoParam (X.N[m]? = some n) aRfl) (hv : autoParam (Vis X.env.scope n) aVis) (hd : autoParam ((n == ("__debug__" : Str)) = false) aDec) (hcd : autoParam ((n == ("__classdict__" : Str)) = false) aDec)
    (hc : autoParam (X.calm = true) aRfl) (hg : autoParam (Gl X "sorted") aRfl) (hg2 : autoParam (Gl X fn) aRfl) (hd2 : autoParam ((fn == ("__debug__" : Str)) = false) aDec)
    (hb1 : autoParam (attributeBase (.Name n p2) "values" X.env (eval (.Name n p2) X.env) = eval (.Name n p2) X.env) aRfl) (hl1 : autoParam ((ap1.endLine == cp1.line) = true) aRfl)
    (hs : autoParam (starEach [.Call (.Attribute (.Name n p2) "values" ap1) [] [] cp1] X.env = (false, eval (.Call (.Attribute (.Name n p2) "values" ap1) [] [] cp1) X.env) :: starEach [] X.env) aStar)
    (he : autoParam (backTo pos (starEach [.Call (.Attribute (.Name n p2) "values" ap1) [] [] cp1] X.env) = (false, eval (.Call (.Attribute (.Name n p2) "values" ap1) [] [] cp1) X.env) :: backTo pos (starEach [] X.env)) aRfl) (hpl : autoParam ((backTo pos (starEach [.Call (.Attribute (.Name n p2) "values" ap1) [] [] cp1] X.env)).any (·.1) = false) aRfl)
    (hall : autoParam ((backToKw pos (keywordEach [⟨some "key", .Name fn kp2, kp⟩] X.env)).all (·.1.isSome) = true) aRfl) (hnone : autoParam ((backToKw pos (keywordEach [⟨some "key", .Name fn kp2, kp⟩] X.env)).any (·.1.isNone) = false) aRfl)
    (hks : autoParam ((backToKw pos (keywordEach [⟨some "key", .Name fn kp2, kp⟩] X.env)).filterMap (·.1) = [Str.ofString "key"]) aRfl) :
    EN X Γ (.Call (.Name "sorted" p) [.Call (.Attribute (.Name n p2) "values" ap1) [] [] cp1] [⟨some "key", .Name fn kp2, kp⟩] pos) ((l.map (·.2)).mergeSort (PySem.W.dataLe false fun x => (h2.d (kf x)).py)) := fun B F H σ Q L q => by
  obtain ⟨f, fd, hmf, hkp, hb, GF⟩ := G.ex
  obtain ⟨v, ev, ⟨rfl, kvs, ha, pr⟩, fo⟩ := slot_own L hgm
  have hdT : H ad = some (.dT (kvs.map fun p => (p.1.l.map KPart.en, p.2))) := ha
  refine WE.of (pe_callBK (cr_sortVK (fun x => (h2.d (kf x)).py) hc (by have := hr.un; omega)) hg hm (by decide +kernel) (pa_cons (pe_bm0 PySem.F.plainAttrs_dict PySem.F.slot_dict_values PySem.F.type_dict_values mt_valuesT (pe_var hN hv hd hcd) hb1 hl1) pa_nil hs) (pk_cons (pe_glob (v := .ref f) hg2 hmf rfl hd2) pk_nil) (by decide) (by decide) he hpl hall hnone hks) ?_
  refine ⟨_, ev, .inr (.inr (.inl ⟨rfl, .inr ⟨_, hdT⟩⟩)), ad, _, rfl, rfl, hdT, fun p0 hp0 => ?_⟩
  have hpad : ad ≠ p0 := fun z => by rw [z, hp0] at hdT; cases hdT
  have s1 : ∀ c o, H c = some o → upd H p0 (valuesO p0 ad) c = some o := fun c o h => by rw [upd_ne (ne_of_none h hp0)]; exact h
  refine ⟨p0, ad, f, _, l.map (·.2), fun v x => i.rp X.K F v x, rfl, rfl, upd_same, s1 _ _ hdT, ?_, hal, hsk, fun d hd' => ?_, fun v u x rv rb hx H' pins' σ' s' hs' I' Qk hQ => ?_, fun H' vs T hs' pv hT => ?_⟩
  · exact drel_vals (e := fun x : Tup Tx => x.l.map KPart.en) pr
  · obtain ⟨x, hx, rfl⟩ := List.mem_map.mp hd'
    exact hdp x hx
  · have sF : Same F H' := fun c o h => hs' _ _ (s1 _ _ (L.same _ _ h))
    have hr2 : Room k0 X.A.in1.in1 := (hr.in1).in1
    refine wpAny_call (codeAny_mono (GF.run X.A.in1.in1 X.stack s' H' ⟨[u], []⟩ [u] [v] Qk (fun _ _ _ => False) hr2 I'.env0.in1.in1 (by simpa using hb s' [u] I'.kIn rfl) (.cons rv .nil) ?_) fun r s'' hq => ?_)
    · refine ⟨F, [.val i x], sF, ?_, ?_, hS x hx _ _ fun w F' H'' ex ok => ?_⟩
      · exact ⟨rb, trivial⟩
      · exact apart_v1
      · exact hQ w H'' (fun c o h => ex.hh c o noMA h) (rpD_dp _ _ (rpD_mono ex.fh _ _ (h2.iff.mp ok)))
    · cases r with
      | error e => exact False.elim (by obtain ⟨_, _, _, _, _, _, _, _, _, _, _, _, hF⟩ := (hq : L2.CX _ _ _ _ _ _ _ _); exact hF)
      | ok fl =>
        cases fl with
        | ret u => exact I'.after hq
        | next => exact False.elim hq
        | brk => exact False.elim hq
        | cont => exact False.elim hq
  · have hTH : H T = none := by
      cases q1 : H T with
      | none => rfl
      | some o => rw [hs' _ _ (s1 _ _ q1)] at hT; cases hT
    have ex : Ext F H F (upd H' T (.lst vs)) := ⟨Same.refl F, fun c o h => by rw [upd_ne (ne_of_none (hs' _ _ (s1 _ _ (L.same _ _ h))) hT)]; exact hs' _ _ (s1 _ _ (L.same _ _ h)), fun c o _ h => by rw [upd_ne (ne_of_none (hs' _ _ (s1 _ _ h)) hT)]; exact hs' _ _ (s1 _ _ h), fun _ _ h _ => h, fun _ z => z.elim⟩
    exact q T vs F _ ex hTH (L.same.free hTH) upd_same pv
end
end Tw
namespace L2
open PySem PySem.Spec PyProof.Rows PySem.W PySem.Calls
end L2
namespace Tw
open PySem PySem.Spec PyProof.Rows L2 TL
noncomputable abbrev T2x := Tx × Tx
noncomputable def ownK (q : Addr) (x : T2x) : Own where
  fp := [q]
  root := .ref q
  ok := fun K F H v => v = .ref q ∧ H q = some (.tup [.str (sx x.1), .str (sx x.2)])
  stay := fun s k ⟨e, h⟩ => ⟨e, k q (List.mem_singleton.mpr rfl) _ h⟩
  there := fun ⟨_, h⟩ b hb z => by rw [List.mem_singleton.mp hb, h] at z; cases z
  rt := fun h => h.1
noncomputable def NoTup (o : Own) : Prop := ∀ K F H v, o.ok K F H v → ∀ b ∈ o.fp, ∀ vs, H b ≠ some (.tup vs)
section
variable {K : PySem.W.Frag} {B : Bs} {F H F' H' : Hp} {σ : L2.St} {Γ : List Slot} {α : Type} {i : Rep α}
noncomputable abbrev bsK (B : Bs) (q : Addr) : Bs := ⟨B.F, B.H, fun b => B.M b ∨ b = q⟩
theorem Lc.key {k : Nat} {q : Addr} {x : T2x} (L : Lc K B F H σ Γ) (hq : H q = some (.tup [.str (sx x.1), .str (sx x.2)])) (fq : F q = none) (nt : ∀ (j : Nat) o, Γ[j]? = some (.own o) → NoTup o) : Lc K (bsK B q) F H (σ.set k (some (.ref q))) (Γ.set k (.own (ownK q x))) := by
  refine ⟨⟨L.ext.ff, L.ext.fh, fun b o nb h => L.ext.hh b o (fun z => nb (.inl z)) h, fun a na h1 h2 => L.ext.nwM a (fun z => na (.inl z)) h1 h2, fun a ha h => ?_⟩, by simp [L.len], fun j t h => ?_, L.ap.putO k fun j o' _ h b hb hb' => ?_⟩
  · rcases ha with ha | rfl
    · exact L.there a ha h
    · rw [hq]; exact fun z => nomatch z
  · rw [get_set_join]
    rcases get_set_slot h with ⟨e1, e2, rfl⟩ | ⟨e1, h⟩
    · rw [if_pos ⟨e1, by rw [L.len]; exact e2⟩]
      exact ⟨_, rfl, ⟨rfl, hq⟩, fun b hb => by rw [List.mem_singleton.mp hb]; exact ⟨fq, .inr (.inr rfl)⟩⟩
    · rw [if_neg fun z => e1 z.1]
      have := L.ok j t h
      cases t with
      | no => trivial
      | val i x => exact this
      | own o =>
        obtain ⟨v, e, ok, f⟩ := this
        exact ⟨v, e, ok, fun b hb => ⟨(f b hb).1, (f b hb).2.imp id .inl⟩⟩
  · rw [List.mem_singleton.mp hb] at hb'
    obtain ⟨v, _, ok, _⟩ := slot_own L h
    exact nt j o' h _ _ _ _ ok q hb' _ hq
end
end Tw
namespace Tw
open PySem PySem.Spec PyProof.Rows L2 TL
noncomputable abbrev finU (q : Nat) (Q : Ret → Prop) : SE := ⟨fun Γ => ∃ o1, Γ[q]? = some (.own o1) ∧ Q (.chg repUnit () [o1]), Q, fun _ => False, fun _ => False, fun _ _ => False⟩
section
variable {P : Program} {w : World} {K : PySem.W.Frag} {mg : Str → Option Value} {base : Heap}
theorem Has.ofU (q : Nat) {n : Str} {st : Stmt} {N ps : List Str} {k : Nat} {S : Spec} (D : Df K mg n st ps) (sc : FnScope N ps (defScope st)) (len : ∀ A Q R, S A Q R → A.length = ps.length)
    (body : ∀ (f : Addr) (cdv : Value) (A : Around) (outer : List Env) (s : Shared) (H : Hp) (E : XK), Room k (A.deeper (envOfC n (defScope st) s.heap.objs.size f cdv)) → ∀ Γ Q R, S Γ Q R →
      ST (cxOf (L2.CX P w) P w K mg base N n (defScope st) f cdv A outer s H E).nox (defBody st) (Γ ++ List.replicate (N.length - ps.length) .no) (finU q Q)) :
    Has P w K mg base (k + 1) n ps S := by
  obtain ⟨f, fd, F, hb, hm⟩ := D.ex
  refine ⟨f, fd, hm, F.kp, hb, F.okX sc (fun vs H Q E ⟨F0, A, s, r, ap, h⟩ => ?_) (fun cdv A outer s H vs Q E hr h => ?_)⟩
  · rw [r.len]; exact len _ _ _ h
  · obtain ⟨F0, A0, sm, r, ap, h⟩ := h
    refine ⟨_, psW.nox, ?_⟩
    have hl := len _ _ _ h
    have L0 := lc_start (K := K) sm r ap (N.length - ps.length)
    have L1 : Lc K ⟨F0, H, MA A0⟩ F0 H (L2.start N vs) (A0 ++ List.replicate (N.length - ps.length) .no) := by
      unfold L2.start
      rw [show vs.length = ps.length from r.len.trans hl]
      exact L0
    refine body f cdv A outer s H E hr A0 _ _ h ⟨F0, H, MA A0⟩ F0 H _ _ L1 ⟨fun F' H' σ' Γ' _ hq L => ?_, fun r v F' H' hq ex ok => hq v F' H' ex ok, fun _ _ _ _ _ z => z.elim, fun _ _ _ _ _ z => z.elim, fun _ _ _ _ _ _ _ _ z => z.elim⟩
    obtain ⟨o1, hg1, hq⟩ := hq
    obtain ⟨v, ev, ok', f'⟩ := slot_own L hg1
    refine hq .non F' H' L.ext ⟨rfl, fun o3 h3 => ?_, by simp⟩
    rw [List.mem_singleton.mp h3]
    exact ⟨by rw [← o1.rt ok']; exact ok', fun b hb => ⟨(f' b hb).2, (f' b hb).1⟩⟩
end
noncomputable def srtI (ns : List Int) : List Int := ns.mergeSort fun a b => decide (a ≤ b)
theorem srtI_perm (ns : List Int) : (srtI ns).Perm ns := List.mergeSort_perm _ _
theorem srtI_pw (ns : List Int) : (srtI ns).Pairwise (· ≤ ·) := by
  have := List.pairwise_mergeSort (le := fun a b : Int => decide (a ≤ b)) (fun a b c h1 h2 => decide_eq_true (Int.le_trans (of_decide_eq_true h1) (of_decide_eq_true h2))) (fun a b => by
    rcases Int.le_total a b with h | h
    · rw [decide_eq_true h]; rfl
    · rw [decide_eq_true h, Bool.or_true]) ns
  exact this.imp fun h => of_decide_eq_true h
theorem srtI_of {ns ms : List Int} (h : ms.Perm ns) (hw : ms.Pairwise (· ≤ ·)) : ms = srtI ns :=
  List.Perm.eq_of_pairwise (fun _ _ _ _ a b => Int.le_antisymm a b) hw (srtI_pw ns) (h.trans (srtI_perm ns).symm)
section
variable {X : Cx} {Γ : List Slot} {α β γ : Type} {i : Rep α} {j : Rep γ} {pos p p2 p3 : Pos} {e a b c tg : Expr} {es : List Expr} {E : SE} {rest body : List Stmt}
theorem en_ofX {P : Ret → Prop} {xs : List α} (h : EX X Γ e P) (f : ∀ r, P r → r = .new i xs) : EN X Γ e xs := fun B F H σ Q L q => h B F H σ _ L fun r v F' H' hr ex ok => by
  have er := f r hr
  subst er
  obtain ⟨ad, vs, rfl, h1, h2, h3, h4⟩ := ok
  exact q ad vs F' H' ex h1 h2 h3 h4
theorem en_sortedD {l : Dic Int α} (hm : X.mg "sorted" = none) (h : EV X Γ e l) (hc : autoParam (X.calm = true) aRfl) (hg : autoParam (Gl X "sorted") aRfl) (hs : autoParam (starEach [e] X.env = (false, eval e X.env) :: starEach [] X.env) aStar) (hpl : autoParam ((backTo pos (starEach [] X.env)).any (·.1) = false) aPl) :
    EN X Γ (.Call (.Name "sorted" p) [e] [] pos) (srtI (l.l.map (·.1))) := en_ofX (ex_sortedD hm h hc hg hs hpl) fun r ⟨ns, ⟨h1, h2⟩, er⟩ => by rw [er, srtI_of h1 h2]
theorem etg_val {N : Bool → List Slot → Prop} (h : EG X Γ e (fun r Γ' => ∃ b, N b Γ' ∧ r = .val repBool b) (fun _ _ => False)) (he : autoParam (∀ whole, isTrue e X.env whole = (do let v ← whole; standAt e.pos; holding [v] (truthy v))) Tw.aIR1) : ETG X Γ e N := fun B F H σ Q L q =>
  WT.of (pt_val peW he) (h B F H σ _ L (fun r v F' H' Γ' hr s1 L1 ok => by
    obtain ⟨b, hN, rfl⟩ := hr
    exact ⟨b, ok, q b F' H' Γ' hN s1 L1⟩) fun x u d F1 H1 Γ2 z _ _ _ => z.elim)
end
end Tw
namespace Tw
open PySem PySem.Spec PyProof.Rows L2 TL
section
variable {X : Cx} {Γ : List Slot} {α β γ δ ε : Type} {i : Rep α} {j : Rep β} {l : Rep γ} {m : Rep δ} {m5 : Rep ε} {pos p p2 p3 : Pos} {e a b c elt tg : Expr} {es : List Expr} {E : SE} {rest body : List Stmt}
theorem tg_d5 {K : PySem.W.Frag} {ζ : Type} {rz : Rep ζ} [dz : IsD ζ] [d1 : IsD α] [d2 : IsD β] [d3 : IsD γ] [d4 : IsD δ] [d5 : IsD ε] (k1 k2 k3 k4 k5 : Nat) {f1 : ζ → α} {f2 : ζ → β} {f3 : ζ → γ} {f4 : ζ → δ} {f5 : ζ → ε} (hx : ∀ x : ζ, dz.d x = .t [d1.d (f1 x), d2.d (f2 x), d3.d (f3 x), d4.d (f4 x), d5.d (f5 x)])
    (h12 : k1 ≠ k2) (h13 : k1 ≠ k3) (h14 : k1 ≠ k4) (h15 : k1 ≠ k5) (h23 : k2 ≠ k3) (h24 : k2 ≠ k4) (h25 : k2 ≠ k5) (h34 : k3 ≠ k4) (h35 : k3 ≠ k5) (h45 : k4 ≠ k5) :
    Tg K (gTup K 5 (gCons (gName k1) (gCons (gName k2) (gCons (gName k3) (gCons (gName k4) (gCons (gName k5) gNil)))))) (fun (x : ζ) Γ => ((((Γ.set k1 (.val i (f1 x))).set k2 (.val j (f2 x))).set k3 (.val l (f3 x))).set k4 (.val m (f4 x))).set k5 (.val m5 (f5 x))) [k1, k2, k3, k4, k5] := ⟨fun B F H σ Γ v x Q L r q => by
  have r1 := dz.iff.mp r
  rw [hx, rpD] at r1
  obtain ⟨ad, vs, rfl, ha, pr⟩ := r1
  rw [rpDs] at pr
  obtain ⟨v1, vs, rfl, p1, pr⟩ := pr
  rw [rpDs] at pr
  obtain ⟨v2, vs, rfl, p2, pr⟩ := pr
  rw [rpDs] at pr
  obtain ⟨v3, vs, rfl, p3, pr⟩ := pr
  rw [rpDs] at pr
  obtain ⟨v4, vs, rfl, p4, pr⟩ := pr
  rw [rpDs] at pr
  obtain ⟨v5, vs, rfl, p5, pr⟩ := pr
  rw [rpDs] at pr
  subst pr
  refine ⟨ad, _, rfl, st_of L.same ha, rfl, v1, _, rfl, v2, _, rfl, v3, _, rfl, v4, _, rfl, v5, _, rfl, rfl, q _ (((((L.putV k1 (d1.iff.mpr p1)).putV k2 (d2.iff.mpr p2)).putV k3 (d3.iff.mpr p3)).putV k4 (d4.iff.mpr p4)).putV k5 (d5.iff.mpr p5)) ?_⟩
  show ((((((((((σ.set k1 (some v1)).set k2 (some v2)).set k3 (some v3)).set k4 (some v4)).set k5 (some v5)).set k5 none).set k4 none).set k3 none).set k2 none).set k1 none) = ((((σ.set k5 none).set k4 none).set k3 none).set k2 none).set k1 none
  rw [List.set_set, List.set_comm _ _ h45, List.set_set, List.set_comm _ _ h35, List.set_comm _ _ h34, List.set_set, List.set_comm _ _ h25, List.set_comm _ _ h24, List.set_comm _ _ h23, List.set_set, List.set_comm _ _ h15, List.set_comm _ _ h14, List.set_comm _ _ h13, List.set_comm _ _ h12, List.set_set]⟩
end
end Tw
namespace Tw
open PySem PySem.Spec PyProof.Rows L2 TL
end Tw
namespace Tw
open PySem PySem.Spec PyProof.Rows L2 TL
end Tw
namespace Tw
open PySem PySem.Spec PyProof.Rows L2 TL
structure DfD (K : PySem.W.Frag) (mg : Str → Option Value) (n : Str) (st : Stmt) (ps : List Str) : Prop where
  ex : ∃ f fd, FunD K n n (defArgs st) (defBody st) (defScope st) [V.non] [] f fd ∧ Binds K fd ps [] ∧ Binds K fd ps [Value.none] ∧ mg n = some (.ref f)
structure HasD (P : Program) (w : World) (K : PySem.W.Frag) (mg : Str → Option Value) (base : Heap) (k : Nat) (n : Str) (ps : List Str) (S : Spec) : Prop where
  ex : ∃ f fd, mg n = some (.ref f) ∧ PySem.W.keepIn K (.ref f) = true ∧ Binds K fd ps [] ∧ Binds K fd ps [Value.none] ∧ FnOk P w K mg base (L2.CX P w) k f fd ps (spOf K S)
section
variable {P : Program} {w : World} {K : PySem.W.Frag} {mg : Str → Option Value} {base : Heap}
theorem HasD.has {k : Nat} {n : Str} {ps : List Str} {S : Spec} (h : HasD P w K mg base k n ps S) : Has P w K mg base k n ps S := by
  obtain ⟨f, fd, h1, h2, h3, h4, h5⟩ := h.ex
  exact ⟨f, fd, h1, h2, h3, h5⟩
theorem HasD.of {n : Str} {st : Stmt} {N ps : List Str} {k : Nat} {S : Spec} (D : DfD K mg n st ps) (sc : FnScope N ps (defScope st)) (len : ∀ A Q R, S A Q R → A.length = ps.length)
    (body : ∀ (f : Addr) (cdv : Value) (A : Around) (outer : List Env) (s : Shared) (H : Hp) (E : XK), Room k (A.deeper (envOfC n (defScope st) s.heap.objs.size f cdv)) → ∀ Γ Q R, S Γ Q R →
      ST (cxOf (L2.CX P w) P w K mg base N n (defScope st) f cdv A outer s H E) (defBody st) (Γ ++ List.replicate (N.length - ps.length) .no) (finX Q R)) :
    HasD P w K mg base (k + 1) n ps S := by
  obtain ⟨f, fd, F, hb, hb2, hm⟩ := D.ex
  refine ⟨f, fd, hm, F.kp, hb, hb2, F.ok sc (fun vs H Q E ⟨F0, A, s, r, ap, h⟩ => ?_) (fun cdv A outer s H vs Q E hr h => ?_)⟩
  · rw [r.len]; exact len _ _ _ h
  · obtain ⟨F0, A0, sm, r, ap, h⟩ := h
    refine ⟨_, psW, ?_⟩
    have hl := len _ _ _ h
    have L0 := lc_start (K := K) sm r ap (N.length - ps.length)
    have L1 : Lc K ⟨F0, H, MA A0⟩ F0 H (L2.start N vs) (A0 ++ List.replicate (N.length - ps.length) .no) := by
      unfold L2.start
      rw [show vs.length = ps.length from r.len.trans hl]
      exact L0
    refine body f cdv A outer s H E hr A0 _ _ h ⟨F0, H, MA A0⟩ F0 H _ _ L1 ⟨fun F' H' σ' Γ' _ hq L => ?_, fun r v F' H' hq ex ok => hq v F' H' ex ok, fun _ _ _ _ _ z => z.elim, fun _ _ _ _ _ z => z.elim, fun F1 H1 σ' Γ' x u d _ hq L ok => ?_⟩
    · exact hq .non F' H' L.ext rfl
    · exact XW.of (L2.takes_of rfl rfl rfl rfl) (hq u d F1 H1 L.ext (ok.imp fun b h => h.1))
theorem dfD_of {h : Heap} {n : Str} {st : Stmt} {ps : List Str} {f T : Addr} {oc tc : Value} {od an td : Option Addr} {osl ts : Array (Option Value)} {kV doc pm cdv ct : Value} {m : Nat} (X : K.In h) (G : h.Ns mainGlobals mg) (a : PySem.W.nsIn K mainGlobals n = some (some (.ref f)))
    (l : K.lookup f = some ⟨oc, od, .func (PySem.W.fnOf n n (defArgs st) (defBody st) (defScope st) (.ref T) kV doc pm an cdv ct), osl⟩) (lt : K.lookup T = some ⟨tc, td, .seq #[Value.none] m, ts⟩)
    (c : PySem.W.codeIn K cdv n = true) (k : PySem.W.keepIn K (.ref f) = true) (hps : 0 < ps.length)
    (hb : ∀ (T : Addr) (kV doc pm : Value) (an : Option Addr) (cdv ct d : Value) (us : List Value), us.length = ps.length → ∃ q, bindArgs (PySem.W.fnOf n n (defArgs st) (defBody st) (defScope st) (.ref T) kV doc pm an cdv ct) ⟨us, []⟩ = seqItems? (.ref T) >>= q ∧ q (some #[d]) = pure (ps.zip us))
    (hb2 : ∀ (T : Addr) (kV doc pm : Value) (an : Option Addr) (cdv ct d : Value) (us : List Value), us.length + 1 = ps.length → ∃ q, bindArgs (PySem.W.fnOf n n (defArgs st) (defBody st) (defScope st) (.ref T) kV doc pm an cdv ct) ⟨us, []⟩ = seqItems? (.ref T) >>= q ∧ q (some #[d]) = pure (ps.zip (us ++ [d]))) : DfD K mg n st ps := by
  have F : FunD K n n (defArgs st) (defBody st) (defScope st) [V.non] [] f (PySem.W.fnOf n n (defArgs st) (defBody st) (defScope st) (.ref T) kV doc pm an cdv ct) :=
    ⟨⟨oc, od, .ref T, kV, doc, pm, an, cdv, ct, osl, rfl, l, c, .inr ⟨by simp, T, _, [Value.none], m, rfl, lt, rfl, .cons rfl .nil⟩, .inl rfl⟩, k⟩
  refine ⟨f, _, F, ?_, ?_, PySem.W.mg_of X G a⟩
  · obtain ⟨ds, hv, B⟩ := F.binds1 (ps := ps) ps.length 1 (by simp) (by simp) fun T kV doc pm an cdv ct us its hl hi => by
      obtain ⟨d, rfl⟩ : ∃ d, its = [d] := List.length_eq_one_iff.mp hi
      obtain ⟨q, e1, e2⟩ := hb T kV doc pm an cdv ct d us hl
      exact ⟨q, e1, by rw [show ([d] : List Value).drop 1 = [] from rfl, List.append_nil]; exact e2⟩
    cases hv
    exact B
  · obtain ⟨ds, hv, B⟩ := F.binds1 (ps := ps) (ps.length - 1) 0 (by simp) (by simp; omega) fun T kV doc pm an cdv ct us its hl hi => by
      obtain ⟨d, rfl⟩ : ∃ d, its = [d] := List.length_eq_one_iff.mp hi
      obtain ⟨q, e1, e2⟩ := hb2 T kV doc pm an cdv ct d us (by omega)
      exact ⟨q, e1, e2⟩
    cases hv with
    | cons r t =>
      cases t
      obtain rfl : _ = Value.none := r
      exact B
end
theorem VsOk.snoc {K : PySem.W.Frag} {F : Hp} {α : Type} {i : Rep α} {x : α} {v : V} (r : i.rp K F v x) : ∀ {vs : List V} {A : List Slot}, VsOk K F vs A → VsOk K F (vs ++ [v]) (A ++ [.val i x])
  | [], [], _ => ⟨r, trivial⟩
  | u :: vs, .val j y :: A, h => ⟨h.1, VsOk.snoc r h.2⟩
  | [], _ :: _, h => h.elim
  | _ :: _, [], h => h.elim
  | _ :: _, .no :: _, h => h.elim
  | _ :: _, .own _ :: _, h => h.elim
section
variable {X : Cx} {Γ : List Slot} {α β γ : Type} {i : Rep α} {j : Rep β} {pos p p2 p3 : Pos} {e a b c : Expr} {es : List Expr} {E : SE} {rest body : List Stmt}
theorem exx_callD {n : Str} {k : Nat} {ps : List Str} {S : Spec} {A : List Slot} {P : Ret → Prop} {R : Exn → Prop} (G : HasD X.prog X.w X.K X.mg X.base k n ps S) (hr : Room k X.A) (ha : EA X Γ (e :: es) A)
    (hS : ∀ P' R', (∀ r, P r → P' r) → (∀ x, R x → R' x) → S (A ++ [vl (none : Option Tx)]) P' R') (hg : autoParam (Gl X n) aRfl) (hd : autoParam ((n == ("__debug__" : Str)) = false) aDec)
    (he : autoParam (starEach (e :: es) X.env = (false, eval e X.env) :: starEach es X.env) aStar) (hpl : autoParam ((backTo pos (starEach es X.env)).any (·.1) = false) aPl) : EXX X Γ (.Call (.Name n p) (e :: es) [] pos) P R := fun B F H σ Q L q z => by
  obtain ⟨f, fd, hm, hk, _, hb, G⟩ := G.ex
  refine WE.of (pe_callSD (E := fun σ cls d H => XW X cls d σ H) (dvs := [V.non]) G hr hg hm hk hb (.cons rfl .nil) (fun σ => passAt takesW σ) paW hd he hpl) (ha B F H σ _ L fun vs F1 H1 e1 r1 => ?_)
  have r2 : VsOk X.K F1 (vs ++ [V.non]) (A ++ [vl (none : Option Tx)]) := VsOk.snoc (i := repOpt) (x := (none : Option Tx)) rfl r1
  exact ⟨F1, A ++ [vl (none : Option Tx)], (L.step e1).same, r2.toO, r2.apart, hS _ _ (fun r hr v F2 H2 e2 ok => q r v F2 H2 hr (e1.thenM e2 fun _ m => (r2.ma m).elim) (ok.imp fun b h => e1.hs.free (h.elim id fun m => (r2.ma m).elim))) fun x hx u d F2 H2 e2 ok => z x u d F2 H2 hx (e1.thenM e2 fun _ m => (r2.ma m).elim) (ok.imp fun b h => e1.hs.free (h.elim id fun m => (r2.ma m).elim))⟩
end
end Tw
namespace L2
open PySem PySem.Spec PyProof.Rows PySem.Calls
end L2
namespace Tw
open PySem PySem.Spec PyProof.Rows L2 TL
noncomputable instance isdOpt {α : Type} [i : Rep α] [h : IsD α] : IsD (Option α) := ⟨fun x => match x with | none => .n | some y => h.d y, by
  intro K F v x
  cases x with
  | none => show v = .non ↔ _; rw [rpD]
  | some y => exact h.iff⟩
end Tw
namespace L2
open PySem PySem.Spec PyProof.Rows PySem.W PySem.Calls
end L2
namespace Tw
open PySem PySem.Spec PyProof.Rows L2 TL
noncomputable abbrev rb (B : Bs) (F' H' : Hp) : Bs := ⟨F', H', fun b => B.nw b ∧ F' b = none⟩
end Tw
namespace LcAir
open PySem PySem.Spec PyProof.Rows L2
theorem funFrames_le {h base base' : Heap} (n : ∀ b, base.get? b = none → base'.get? b = none) : ∀ {l : List Env}, h.FunFrames base l → h.FunFrames base' l
  | [], _ => trivial
  | _ :: _, ⟨hk, ⟨L', o, hf, hb, ho, hd⟩, hr⟩ => ⟨hk, ⟨L', o, hf, n _ hb, ho, hd⟩, funFrames_le n hr⟩
theorem traced_le {h base base' : Heap} {e : Addr} {Z : Obj → Prop} {fl : Value} (n : ∀ b, base.get? b = none → base'.get? b = none) (t : HandSPX.TracedZ h base e Z fl) : HandSPX.TracedZ h base' e Z fl := by
  obtain ⟨oe, vs, T, oT, ts, a1, a2, a3, a4, a5, a6⟩ := t
  exact ⟨oe, vs, T, oT, ts, a1, a2, a3, a4, n _ a5, a6⟩
section
variable {M : Model} {A : Around} {E : Value → Shared → Prop} {s' : Shared} {base : Heap} {cenv : Env} {l : List Env} {e L : Addr} {Z : Obj → Prop} {m : Str → Option Value}
theorem compFailsZ (hf : cenv.frame = some L) (hbC : base.get? cenv.locals = none) (hn : s'.heap.Ns cenv.locals m) (hh : HandSPX.HeldZ base l e Z L s'.heap)
    (hQ : ∀ h', HandSPX.HeldZ base l e Z L h' → (∀ b o, s'.heap.get? b = some o → b ≠ cenv.locals → (∀ vs, o.data ≠ .fields vs) → ∃ sl, h'.get? b = some { o with slots := sl }) → E (.ref e) { s' with heap := h' }) :
    CompFails M A E cenv (.ref e) s' := by
  refine ⟨m, hn, fun h₂ m₂ hn₂ hs₂ => ?_⟩
  obtain ⟨b1, b0, f1, oe, vs, T, oT, ts, he, hz, hd, h1, hnT, hTe, hT, hdT, h3⟩ := hh
  obtain ⟨oL, es, ep, hoL, hdL, _⟩ := id hn
  have neE : e ≠ cenv.locals := fun q => by
    rw [q, hoL] at he
    cases he
    rw [hdL] at hd; cases hd
  have neT : T ≠ cenv.locals := fun q => by
    rw [q, hoL] at hT
    cases hT
    rw [hdL] at hdT; cases hdT
  have b2 : base.StaysIn h₂ := fun b o hb => (hs₂.2 b fun q => by rw [q, hbC] at hb; cases hb).trans (b1 b o hb)
  have f2 : h₂.FunFrames base l := Heap.FunFrames.sameBut hs₂ hn₂ f1
  have he2 : h₂.get? e = some oe := (hs₂.2 e neE).trans he
  have hT2 : h₂.get? T = some oT := (hs₂.2 T neT).trans hT
  have held : HandSPX.HeldZ base l e Z L h₂ := ⟨b2, b0, f2, oe, vs, T, oT, ts, he2, hz, hd, h1, hnT, hTe, hT2, hdT, h3⟩
  unfold PySem.passOn
  refine wpAny_bind (wpAny_field he2 hd h1 ?_)
  rw [if_neg (show ¬ ((Value.ref T == Value.none) = true) from by simp)]
  rw [hf]
  refine wpAny_bind (HandSPX.setFlight_onZ (s := { s' with heap := h₂ }) held fun h₃ hH k3 => ?_)
  refine wpAny_throw ?_
  exact hQ h₃ hH fun b o hb hbL hnf => k3 b o ((hs₂.2 b hbL).trans hb) hnf
end
theorem looksZ {M : Model} {A : Around} {E : Value → Shared → Prop} {s : Shared} {Z : Obj → Prop} {base : Heap} {env : Env} {outer : List Env} {L e : Addr} {fl : Value} {Q : Unit → Shared → Prop} (hZ : HandSPX.Steady Z) (hfr : A.frames = some (env :: outer)) (hf : env.frame = some L) (hn : (fl == rawInt L) = false)
    (hkb : base.StaysIn s.heap) (hen : base.get? e = none) (hl : s.heap.FunFrames base (env :: outer)) (ht : HandSPX.TracedZ s.heap base e Z fl)
    (hQ : ∀ h', HandSPX.HeldZ base (env :: outer) e Z L h' → s.heap.UpToSlots h' → Q () { s with heap := h' }) : wpAny M A (noteFrame (.ref e) env) Q E s := by
  obtain ⟨oe, vs, T, oT, ts, he, hz, hd, h1, hnT, hTe, hT, hdT, h3⟩ := ht
  unfold noteFrame
  simp only [hf]
  refine wpAny_bind (wpAny_field he hd h1 ?_)
  rw [if_pos (show (Value.ref T != Value.none) = true from by simp)]
  refine wpAny_bind (wpAny_field hT hdT h3 ?_)
  rw [if_neg (show ¬ ((fl == rawInt L) = true) from by rw [hn]; exact Bool.false_ne_true)]
  refine wpAny_bind (wpAny_setField hT hdT (Array.getElem?_eq_some_iff.mp h3).1 ?_)
  have other : ∀ b, b ≠ T → (s.heap.update T (Obj.mapFields (·.setIfInBounds 3 Value.none))).get? b = s.heap.get? b := fun b hb => Heap.get?_update_other _ _ (Ne.symm hb)
  have noRecord : ∀ b o, s.heap.get? b = some o → (∀ vs, o.data ≠ .fields vs) → b ≠ T := fun b o hb hnf q => by
    rw [q, hT] at hb; injection hb with hb; subst hb; exact hnf ts hdT
  refine HandSPX.wpAny_entryZ hZ hfr (hl.of_keeps fun b o hb hnf => ⟨o, (other b (noRecord b o hb hnf)).trans hb, rfl⟩) hf ((other e (Ne.symm hTe)).trans he)
    (fun b o hbo => (other b fun q => by rw [q, hnT] at hbo; cases hbo).trans (hkb b o hbo)) hen hd (Array.getElem?_eq_some_iff.mp h1).1 hz fun h' hN => ?_
  obtain ⟨x1, x2, x3, x4⟩ := hN
  exact hQ h' ⟨x1, hen, x2, x3⟩ fun b o hb hnf => x4 b o ((other b (noRecord b o hb hnf)).trans hb) hnf
noncomputable abbrev airOf (X : Cx) (ce : Env) : Value → Shared → Prop := fun u s' => notedBy (model X.prog X.w) X.A ce (CompFails (model X.prog X.w) X.A X.xe ce) u s'
theorem comp_air {X : Cx} {W Wb : WX} (tk : Takes X W) {pins : List (Addr × Obj)} {σ : L2.St} {H3 : Hp} {s3 : Shared} {scope : Scope} {ce : Env} {fp : List Addr} {Ew : Value → Shared → Prop} {u : Value} {s' : Shared} (I3 : Inv X pins σ H3 s3)
    (hcf : ce.frame = X.env.frame) (hf : X.env.frame = some X.env.locals) (hst : X.stack = X.env :: X.outer) (hCn : s3.heap.objs.size ≤ ce.locals) (hfp : ∀ b ∈ fp, (b ∈ X.ex ∨ X.s_0.heap.objs.size ≤ b) ∧ b ≠ X.env.locals ∧ (∀ x c, X.env.cells.lookup x = some c → c ≠ b) ∧ ∀ p ∈ X.pn ++ pins, p.1 ≠ b)
    (hW : ∀ cls d σb H', Wb cls d σb H' → W cls d σ H') (c : XE ((X.blk s3 H3 scope ce fp).wish Ew) Wb u s') : airOf X ce u s' := by
  obtain ⟨a, B, sI, pinsb, σb, H', cls, d, rfl, Iw, nb, up, sky, na, os, ag, hE⟩ := c
  have Ib : Inv (X.blk s3 H3 scope ce fp) pinsb σb H' sI := Iw.unwish
  have nb : ∀ b o, sI.heap.get? b = some o → b ∉ frs X.stack → B.get? b = some o := nb
  have sky : Sky B X.stack a (Zc cls d) ce.locals s'.heap := sky
  have st : B.StaysIn s'.heap := by rcases sky with z | z | z <;> exact z.1
  have ne0 : B.get? a = none := by rcases sky with z | z | z <;> exact z.2.1
  obtain ⟨m, hn, _⟩ := Ib.loc
  have hn : sI.heap.Ns ce.locals m := hn
  have nC : H' ce.locals = none := Ib.free
  have nC3 : H3 ce.locals = none := I3.hok.fresh hCn
  have lt3 : ∀ b ∈ frs X.stack, b < s3.heap.objs.size := fun b hb => by
    obtain ⟨_, o, ho, _⟩ := I3.stack.mem hb
    exact Heap.lt_size ho
  have fC : ce.locals ∉ frs X.stack := fun z => Nat.lt_irrefl _ (Nat.lt_of_lt_of_le (lt3 _ z) hCn)
  have neL : ce.locals ≠ X.env.locals := fun z => fC (by rw [hst, z]; show _ ∈ List.filterMap _ _; rw [List.filterMap_cons, hf]; exact List.mem_cons_self ..)
  obtain ⟨oC, es, ep, hoC, rC⟩ := hn
  have hnS : s'.heap.Ns ce.locals m := ⟨oC, es, ep, st _ _ (nb _ _ hoC fC), rC⟩
  obtain ⟨B', hB'⟩ : ∃ B', B' = PySem.W.hideAll B [ce.locals] := ⟨_, rfl⟩
  have le : ∀ b o, B'.get? b = some o → B.get? b = some o := fun b o q => by rw [hB'] at q; exact PySem.W.of_hideAll _ q
  have ge : ∀ b o, B.get? b = some o → b ≠ ce.locals → B'.get? b = some o := fun b o q n => by rw [hB']; exact PySem.W.hideAll_get _ q (by simpa using n)
  have nn : ∀ b, B.get? b = none → B'.get? b = none := fun b q => by
    cases z : B'.get? b with
    | none => rfl
    | some o => rw [le b o z] at q; cases q
  have hBC : B'.get? ce.locals = none := by rw [hB']; exact PySem.W.hideAll_none _ (List.mem_singleton.mpr rfl)
  have st' : B'.StaysIn s'.heap := fun b o q => st b o (le b o q)
  have hfr : X.A.frames = some (X.env :: X.outer) := by rw [I3.ok.frames, hst]
  suffices key : ∀ h1, HandSPX.HeldZ B' (X.env :: X.outer) a (Zc cls d) X.env.locals h1 → s'.heap.UpToSlots h1 → CompFails (model X.prog X.w) X.A X.xe ce (.ref a) { s' with heap := h1 } by
    show wpAny _ _ (noteFrame (.ref a) ce) _ _ s'
    rw [noteFrame_env _ hcf]
    rcases sky with ⟨_, _, ff, oe, vs, he, hz, hd, h1⟩ | ⟨_, _, ff, tr⟩ | ⟨_, _, ff, tr⟩
    · rw [hst] at ff
      exact HandSPX.look_newZ Zc.steady hfr (funFrames_le nn ff) hf he st' (nn _ ne0) hd h1 hz fun h' hH hk => key h' hH hk
    · rw [hst] at ff
      exact looksZ Zc.steady hfr hf (by simp [rawInt]) st' (nn _ ne0) (funFrames_le nn ff) (traced_le nn tr) fun h' hH hk => key h' hH hk
    · rw [hst] at ff
      exact looksZ Zc.steady hfr hf (by
        cases q : (rawInt ce.locals == rawInt X.env.locals) with
        | false => rfl
        | true =>
          have := eq_of_beq q
          simp [rawInt] at this
          exact absurd (by
            have h2 : (ce.locals : Nat) = X.env.locals := by exact_mod_cast this
            exact h2) neL) st' (nn _ ne0) (funFrames_le nn ff) (traced_le nn tr) fun h' hH hk => key h' hH hk
  intro h1 hH hk
  refine compFailsZ (hcf.trans hf) hBC (hnS.upToSlots hk) hH fun h2 hH2 hk2 => ?_
  rw [← hst] at hH2
  obtain ⟨G, g1, g2⟩ := restrict h2 fun b => (B'.get? b).isSome || decide (b ∈ frs X.stack)
  have gB : ∀ b o, B'.get? b = some o → G.get? b = some o := fun b o e => by
    rw [g1 b (by simp [e])]
    exact hH2.1 b o e
  have gF : ∀ b, b ∈ frs X.stack → G.get? b = h2.get? b := fun b hb => g1 b (by simp [hb])
  have og : ∀ b o, G.get? b = some o → h2.get? b = some o ∧ ((B'.get? b).isSome = true ∨ b ∈ frs X.stack) := fun b o e => by
    cases q : ((B'.get? b).isSome || decide (b ∈ frs X.stack)) with
    | false => rw [g2 b q] at e; cases e
    | true =>
      rw [g1 b q] at e
      exact ⟨e, by simpa [Bool.or_eq_true] using q⟩
  have ne3 : ∀ b o, s3.heap.get? b = some o → b ≠ ce.locals := fun b o e => Nat.ne_of_lt (Nat.lt_of_lt_of_le (Heap.lt_size e) hCn)
  have upG : ∀ b o, sI.heap.get? b = some o → b ∈ frs X.stack → ∃ sl, G.get? b = some { o with slots := sl } := fun b o e hb => by
    obtain ⟨_, o0, ho0, hnf⟩ := Ib.stack.mem hb
    rw [e] at ho0
    cases ho0
    obtain ⟨sl2, q2⟩ := up b o e hnf
    obtain ⟨sl3, q3⟩ := hk b _ q2 hnf
    obtain ⟨sl4, q4⟩ := hk2 b _ q3 (fun z => fC (z ▸ hb)) hnf
    exact ⟨sl4, (gF b hb).trans q4⟩
  have inv : Inv X pins σ H' { s' with heap := G } := by
    refine I3.call' (ch := ce.locals :: fp) (os.trans Ib.os) ⟨fun b o e n hb hx => ?_, fun b o e n hb hx => ?_, fun b o e n hx => ?_, fun b o e hx => ?_, fun b xs e => Ib.base.tups b xs e, fun b o x e => Ib.base.frzs b o x e, fun b ps e => Ib.base.tbls b ps e⟩ (fun b x e => ?_) ag fun b hb => ?_
    · have hx2 : b ∉ fp := fun z => hx (List.mem_cons_of_mem _ z)
      exact gB b o (ge b o (nb b o (Ib.base.keep b o e n hb hx2) hb) (ne3 b o e))
    · have hx2 : b ∉ fp := fun z => hx (List.mem_cons_of_mem _ z)
      obtain ⟨sl1, q1⟩ := Ib.base.slot b o e n hb hx2
      obtain ⟨sl2, q2⟩ := upG b _ q1 hb
      exact ⟨sl2, q2⟩
    · exact Ib.base.free b o e n fun z => hx (List.mem_cons_of_mem _ z)
    · have hx2 : b ∉ fp := fun z => hx (List.mem_cons_of_mem _ z)
      obtain ⟨o0, q0⟩ := Ib.base.there b o e hx2
      by_cases hb : b ∈ frs X.stack
      · obtain ⟨sl, q⟩ := upG b o0 q0 hb
        exact ⟨_, q⟩
      · exact ⟨o0, gB b o0 (ge b o0 (nb b o0 q0 hb) (ne3 b o e))⟩
    · have nit : ∀ c v, H' c = some v → c ≠ ce.locals ∧ c ∉ frs X.stack := fun c v q => ⟨fun z => by rw [z, nC] at q; (cases q), fun hb => by
        obtain ⟨o3, ho3⟩ : ∃ o, s3.heap.get? c = some o := by
          obtain ⟨_, o, ho, _⟩ := I3.stack.mem hb
          exact ⟨o, ho⟩
        have n3 : H3 c = none := Ib.ok.frf c hb
        have := Ib.base.free c o3 ho3 n3 (fun z => Ib.ok.exfs c z hb)
        rw [this] at q; (cases q)⟩
      refine (Ib.hok b x e).stay (fun c v hc q => ?_) (fun _ q => q) fun _ _ q => q
      obtain ⟨k1, k2⟩ : c ≠ ce.locals ∧ c ∉ frs X.stack := by
        rcases hc with z | z
        · rw [z]; exact nit b x e
        · exact nit c _ z
      exact gB c v (ge c v (nb c v q k2) k1)
    · rcases List.mem_cons.mp hb with rfl | hb
      · obtain ⟨_, f1, _, f3, f4, f5⟩ := I3.fpOk hCn nC3
        exact ⟨f3, f1, f4, f5⟩
      · exact hfp b hb
  refine tk _ _ ⟨a, B', { s' with heap := G }, pins, σ, H', cls, d, rfl, inv, fun b o e hb => ?_, Heap.UpToSlots.of_keeps fun b o e => (og b o e).1, .inr (.inr hH2), na, rfl, ag, hW _ _ _ _ hE⟩
  obtain ⟨e', h⟩ := og b o e
  rcases h with h | h
  · obtain ⟨o', q⟩ := Option.isSome_iff_exists.mp h
    have z := hH2.1 b o' q
    rw [e'] at z; cases z
    exact q
  · exact absurd h hb
section
variable {X : Cx}
theorem lcA_core {pins : List (Addr × Obj)} {s : Shared} {σ : L2.St} {H : Hp} {Q : VK} {elt tg iter : Expr} {scope : Scope} {own : List (Str × Nat)} {pos pos' : Pos} {wi : TI} {g : TG} {tt : TT} {ifs : List Expr} {te : TE} {use : Option (Value → Sem Unit)} {Qf : Value → Shared → Prop}
    (hc : X.calm = true) (hN : X.N.Nodup) (I : Inv X pins σ H s) (hi : PI X tg iter wi) (ok : BlkOk X.N X.env.scope scope own)
    (hg : ∀ (s : Shared) (H : Hp) (C : Addr) (cl : List (Str × Addr)) (fp : List Addr), PG (X.blk s H scope (compEnvC scope cl C X.env) fp) tg g) (ht : ∀ (s : Shared) (H : Hp) (C : Addr) (cl : List (Str × Addr)) (fp : List Addr), PTs (X.blk s H scope (compEnvC scope cl C X.env) fp) ifs tt)
    (he : ∀ (s3 : Shared) (H3 : Hp) (cl : List (Str × Addr)) (fp : List Addr), Inv X pins σ H3 s3 → (∀ b ∈ fp, FpOk X pins H3 b) → PE ((X.blk s3 H3 scope (compEnvC scope cl s3.heap.objs.size X.env) fp).wish (airOf X (compEnvC scope cl s3.heap.objs.size X.env))) elt te) (hs : ∀ x, foldedSetIterable iter X.env x = pure x)
    (h : tLc wi g tt te (own.map (·.2)) σ H Q)
    (hRR : ∀ D (ce : Env) s' m H', Inv X pins σ H' s' → Q (.ref D) H' → s'.heap.Ns ce.locals m → FpOk X pins H' ce.locals → compEnds (model X.prog X.w) X.A X.xe use Qf (.ref D) ce (.ok .next) s') :
    wpAny (model X.prog X.w) X.A (comprehension (.ListComp elt [⟨tg, iter, ifs, 0⟩] scope pos) scope X.env pos' (newList []) false (eval iter X.env) use) Qf X.xe s := by
  have hfree : ∀ y ∈ scope.names, y.2 = .free → ∃ c, X.env.cells.lookup y.1 = some c := fun y hy e => (ok.free y hy e).elim (fun k => I.ok.has _ (.inl k)) fun k => I.ok.has _ (.inr k)
  refine comprehension_at (use := use) rfl hs (closure_ok hfree) ok.kind (fun y hy e => by rw [ok.uniq y hy, e]) (thn (hi.run pins s σ H _ I h) fun xv s1 hx => thn hx fun itv s2 h2 => ?_)
  obtain ⟨it, fp, tn, J, H2, e, I2, T, st2, f2, q⟩ := h2
  subst e
  refine wpAny_newObj_type (newEnv_comp ?_) (by show 0 ≤ sizeLine; decide)
  generalize hD : s2.heap.objs.size = D
  have hDn : H2 D = none := I2.hok.fresh (Nat.le_of_eq hD)
  obtain ⟨Wn, ⟨m0, w0⟩, turn⟩ := q D hDn
  generalize hs3 : ({ s2 with heap := s2.heap.push { cls := .type "list", data := .seq ([] : List Value).toArray } } : Shared) = s3
  have I3 : Inv X pins σ (upd H2 D (.lst [])) s3 := by
    rw [← hs3]
    refine I2.laid (t' := s2.toks) (fun b o e => Heap.get?_push_of_some _ e) (Nat.le_of_eq hD) ⟨Nat.zero_le _, [], 0, .nil, ?_⟩
    rw [← hD]
    exact Heap.get?_push_size _ rfl
  have h3 : s3.heap = s2.heap.push { cls := .type "list", data := .seq ([] : List Value).toArray } := by rw [← hs3]
  have f3 : ∀ b ∈ fp, FpOk X pins (upd H2 D (.lst [])) b ∧ b < s3.heap.objs.size := fun b hb => by
    have hlt : b < s2.heap.objs.size := by
      obtain ⟨o, e, _⟩ := T.obj _ _ st2 b hb
      exact Heap.lt_size e
    refine ⟨⟨?_, (f2 b hb).2⟩, by rw [h3, Heap.size_push]; exact Nat.lt_succ_of_lt hlt⟩
    rw [upd_ne (by rw [← hD]; exact Nat.ne_of_lt hlt)]
    exact (f2 b hb).1
  have st3 : tn 0 s3.heap := T.keep _ _ _ st2 fun b _ o e => by rw [h3]; exact Heap.get?_push_of_some _ e
  have I4 := block_start I3 ok hN f3
  have pg := hg s3 (upd H2 D (.lst [])) s3.heap.objs.size (cellsFrom (s3.heap.objs.size + 1) scope.names (cloFrom X.env.cells scope.names [])) fp
  have pt := ht s3 (upd H2 D (.lst [])) s3.heap.objs.size (cellsFrom (s3.heap.objs.size + 1) scope.names (cloFrom X.env.cells scope.names [])) fp
  have pe := he s3 (upd H2 D (.lst [])) (cellsFrom (s3.heap.objs.size + 1) scope.names (cloFrom X.env.cells scope.names [])) fp I3 fun b hb => (f3 b hb).1
  show codeAny _ _ (.compStart (.ListComp elt [⟨tg, iter, ifs, 0⟩] scope pos) 0 (.ref it) (.ref D) (compEnvC scope (cellsFrom (s3.heap.objs.size + 1) scope.names (cloFrom X.env.cells scope.names [])) s3.heap.objs.size X.env)) (compEnds (model X.prog X.w) X.A X.xe use Qf (.ref D) (compEnvC scope (cellsFrom (s3.heap.objs.size + 1) scope.names (cloFrom X.env.cells scope.names [])) s3.heap.objs.size X.env)) { s3 with heap := pushCells (s3.heap.push { cls := .type "dict", data := .dict #[] }) scope.names }
  have nfp : ∀ b ∈ fp, (upd H2 D (.lst [])) b = none := fun b hb => (f3 b hb).1.1
  generalize hce : compEnvC scope (cellsFrom (s3.heap.objs.size + 1) scope.names (cloFrom X.env.cells scope.names [])) s3.heap.objs.size X.env = ce at I4 pg pt pe ⊢
  have cL : ce.locals = s3.heap.objs.size := by subst hce; rfl
  generalize hH3 : upd H2 D (.lst []) = H3 at I3 I4 pg pt pe w0 nfp f3
  generalize hs4 : ({ s3 with heap := pushCells (s3.heap.push { cls := .type "dict", data := .dict #[] }) scope.names } : Shared) = s4 at I4 ⊢
  have st4 : tn 0 s4.heap := T.keep _ _ _ st3 fun b _ o e => by rw [← hs4]; exact pushCells_keeps _ _ _ _ (Heap.get?_push_of_some _ e)
  have stat : ∀ {σ' : L2.St} {H' : Hp} {s' : Shared}, Inv (X.blk s3 H3 scope ce fp) [] σ' H' s' → (∀ b ∈ fp, H' b = none) → ∀ b ∈ fp, FpOk (X.blk s3 H3 scope ce fp) [] H' b := fun {σ' H' s'} I' hn b hb =>
    ⟨hn b hb, (I'.ok.exf b hb).1, I'.ok.exfs b hb, .inl hb, fun x c e => (I'.ok.exf b hb).2 x c e, fun p hp => absurd (show p ∈ ([] : List (Addr × Obj)) ++ [] from hp) (by simp)⟩
  have err : ∀ {u : Value} {s' : Shared}, airOf X ce u s' → notedBy (model X.prog X.w) X.A ce (fun e s' => compEnds (model X.prog X.w) X.A X.xe use Qf (.ref D) ce (.error e) s') u s' := fun {u s'} z => by cases use <;> exact z
  have loop : codeAny (model X.prog X.w) X.A (.compLoop (.ListComp elt [⟨tg, iter, ifs, 0⟩] scope pos) 0 (.ref it) (.ref D) ce) (compEnds (model X.prog X.w) X.A X.xe use Qf (.ref D) ce) s4 := by
    refine compLoop_any (fun n s' => ∃ i H', Inv (X.blk s3 H3 scope ce fp) [] (wipe σ (own.map (·.2))) H' s' ∧ tn i s'.heap ∧ (∀ b ∈ fp, H' b = none) ∧ Wn i n H') ?_ m0 ⟨0, H3, I4, st4, nfp, w0⟩
    rintro n s5 ⟨i, H5, I5, st5, n5, w5⟩
    rcases turn i n H5 w5 with ⟨stop, qq⟩ | ⟨go, Nx, hNx, step⟩
    · refine thnF (T.done (X.blk s3 H3 scope ce fp) rfl rfl rfl hc i [] s5 _ H5 (fun _ _ => False) I5 (stat I5 n5) st5 stop) fun r s6 ⟨hr, I6⟩ => ?_
      subst hr
      have I7 : Inv X pins σ H5 s6 := I3.call' (ch := fp) I6.os I6.base I6.hok I6.bare fun b hb => ⟨(f3 b hb).1.2.2.2.1, (f3 b hb).1.2.1, (f3 b hb).1.2.2.2.2.1, (f3 b hb).1.2.2.2.2.2⟩
      have nC : H5 ce.locals = none := I6.free
      obtain ⟨m, hn, _⟩ := I6.loc
      exact hRR D ce s6 m H5 I7 qq hn (I3.fpOk (by rw [cL]; exact Nat.le_refl _) nC)
    · refine thnF (T.item (X.blk s3 H3 scope ce fp) rfl rfl rfl hc i [] s5 _ H5 (fun _ _ => False) I5 (stat I5 n5) st5 go) fun r s6 ⟨u, hr, h6⟩ => ?_
      subst hr
      refine thnF h6 fun _ s7 ⟨x, H7, I7, r7, y7, st7, n7⟩ => ?_
      have I7' := I7.pinned (stat I7 n7) (T.obj _ _ st7)
      refine thnF (pg.run _ s7 _ H7 x u _ I7' r7 (step x H7 y7)) fun _ s8 ⟨σ8, H8, I8, hw8, q8⟩ => ?_
      refine thnF (pt.run _ s8 σ8 H8 _ I8 q8) fun b s9 ⟨H9, I9, q9⟩ => ?_
      have fin : ∀ {s' : Shared} {H' : Hp}, Inv (X.blk s3 H3 scope ce fp) ([] ++ pinsAt fp s7.heap) σ8 H' s' → Nx H' → ∃ m, m < n ∧ ∃ i H', Inv (X.blk s3 H3 scope ce fp) [] (wipe σ (own.map (·.2))) H' s' ∧ tn i s'.heap ∧ (∀ b ∈ fp, H' b = none) ∧ Wn i m H' := fun {s' H'} I' nx => by
        obtain ⟨m', hm, w'⟩ := hNx H' nx
        have pin' : ∀ b ∈ fp, ∀ o, s7.heap.get? b = some o → s'.heap.get? b = some o ∧ H' b = none := fun b hb o e =>
          let z := I'.pin (b, o) (List.mem_append_right _ (List.mem_append_right _ (mem_pinsAt hb e)))
          ⟨z.1, z.2.1⟩
        have hl : (wipe σ (own.map (·.2))).length = σ8.length := by rw [← hw8, wipe_length]
        refine ⟨m', hm, i + 1, H', (I'.unpinned (pins := [])).weak hl (fun j v e => ?_), T.keep _ _ _ st7 fun b hb o e => (pin' b hb o e).1, fun b hb => ?_, w'⟩
        · rw [← hw8] at e
          exact (wipe_some e).1
        · obtain ⟨o, e, _⟩ := T.obj _ _ st7 b hb
          exact (pin' b hb o e).2
      cases b with
      | false =>
        simp only [Bool.false_eq_true, if_false] at q9 ⊢
        exact fin I9 q9
      | true =>
        simp only [if_true] at q9 ⊢
        refine wpAny_mono (pe.run _ s9 σ8 H9 _ (I9.wish _) q9) (fun z s10 ⟨yv, H10, I10w, r10, acc, hD10, hz10, nx⟩ => ?_) fun e s' z => err z
        have I10 : Inv (X.blk s3 H3 scope ce fp) _ σ8 H10 s10 := I10w.unwish
        exact app_ok (X := X.blk s3 H3 scope ce fp) I10 hD10 hz10 r10 fun s11 I11 => fin I11 nx
  exact codeAny_compStart_list loop (T.self X.A 0 _ _ _ st4 loop)
noncomputable abbrev BlkA (X : Cx) (scope : Scope) (s : Shared) (H : Hp) (cl : List (Str × Addr)) (fp : List Addr) : Cx := (X.blk s H scope (compEnvC scope cl s.heap.objs.size X.env) fp).wish (airOf X (compEnvC scope cl s.heap.objs.size X.env))
theorem ps_setLcA {i : Nat} {y : Str} {py : Pos} {elt tg iter : Expr} {ifs : List Expr} {scope : Scope} {own : List (Str × Nat)} {pos spos : Pos} {wi : TI} {g : TG} {tt : TT} {te : L2.St → TE} (hc : X.calm = true) (hN : X.N.Nodup) (hy : X.N[i]? = some y) (hyl : X.env.scope.names.lookup y = some .local)
    (hsw : swapsWith (.ListComp elt [⟨tg, iter, ifs, 0⟩] scope pos) (some (.Name y py)) spos.line X.env = pure true) (hi : PI X tg iter wi) (ok : BlkOk X.N X.env.scope scope own)
    (hg : ∀ (s : Shared) (H : Hp) (C : Addr) (cl : List (Str × Addr)) (fp : List Addr), PG (X.blk s H scope (compEnvC scope cl C X.env) fp) tg g) (ht : ∀ (s : Shared) (H : Hp) (C : Addr) (cl : List (Str × Addr)) (fp : List Addr), PTs (X.blk s H scope (compEnvC scope cl C X.env) fp) ifs tt)
    (he : ∀ (pins : List (Addr × Obj)) (σ : L2.St) (s3 : Shared) (H3 : Hp) (cl : List (Str × Addr)) (fp : List Addr), Inv X pins σ H3 s3 → (∀ b ∈ fp, FpOk X pins H3 b) → PE (BlkA X scope s3 H3 cl fp) elt (te σ)) (hs : autoParam (∀ x, foldedSetIterable iter X.env x = pure x) Tw.aIR1) :
    PS X (.Assign [.Name y py] (.ListComp elt [⟨tg, iter, ifs, 0⟩] scope pos) spos) (fun D σ H => tLc wi g tt (te σ) (own.map (·.2)) σ H fun x H1 => gName i x σ H1 D.nx) := by
  refine ⟨fun pins s σ H D I h => ?_⟩
  rw [exec_Assign_Name_used _ _ _ _ hsw]
  refine wpAny_bind (wpAny_standAt (wpAny_bind ?_))
  show wpAny _ X.A (do let _ ← comprehension (.ListComp elt [⟨tg, iter, ifs, 0⟩] scope pos) scope X.env (firstIterPos [⟨tg, iter, ifs, 0⟩] pos) (newList []) false (eval iter X.env) (some (assign (.Name y py) X.env))) _ _ s
  refine wpAny_bind (thn (lcA_core (Qf := fun _ s' => SP X pins D .next s') hc hN I hi ok hg ht (he pins σ) hs h fun L ce s' m H' I' q hn f => ?_) fun _ s' hq => wpAny_pure (wpAny_pure hq))
  show wpAny _ _ (assign (.Name y py) X.env (.ref L)) _ _ _
  refine wpAny_assign_Name (store_ok2 (v := V.ref L) I' hN hy (.inl hyl) rfl (fun s2 I2 ⟨a, sb, ha⟩ => ?_) (.inr hyl))
  obtain ⟨f0, f1, f2, f3, f4, f5⟩ := f
  have haC : ce.locals ≠ a := by
    rcases ha with z | z
    · rw [z]; exact f1
    · exact fun e => f4 y a z e.symm
  refine ⟨m, hn.sameBut sb haC, fun h3 sb3 => ?_⟩
  exact ⟨_, H', I2.turned (t' := s2.toks) (fun b o hb e => (sb3.2 b hb).trans e) f0 f1 f3 f4 f5, q⟩
end
end LcAir
namespace Tw
open PySem PySem.Spec PyProof.Rows L2 TL LcAir
section
variable {X : Cx} {Γ : List Slot} {α β γ : Type} {i : Rep α} {j : Rep β} {pos p p2 p3 : Pos} {e a b c elt tg it : Expr} {es : List Expr} {E : SE} {rest body : List Stmt}
theorem xw_air {pins : List (Addr × Obj)} {σ σb : L2.St} {H3 H : Hp} {s3 : Shared} {scope : Scope} {cl : List (Str × Addr)} {fp : List Addr} {cls : Value} {d : Option Addr} (I3 : Inv X pins σ H3 s3) (hfp : ∀ b ∈ fp, FpOk X pins H3 b)
    (hf : X.env.frame = some X.env.locals) (hst : X.stack = X.env :: X.outer) (h : XW X cls d σ H) : XW (BlkA X scope s3 H3 cl fp) cls d σb H := fun u s' x =>
  comp_air (W := fun c d' σ' H' => c = cls ∧ d' = d ∧ σ' = σ ∧ H' = H) (Wb := fun c d' σ' H' => c = cls ∧ d' = d ∧ σ' = σb ∧ H' = H) (fun u s' z => h u s' z) I3 rfl hf hst (Nat.le_refl _)
    (fun b hb => by obtain ⟨_, f1, _, f3, f4, f5⟩ := hfp b hb; exact ⟨f3, f1, f4, f5⟩) (fun _ _ _ _ z => ⟨z.1, z.2.1, rfl, z.2.2.2⟩) x
theorem st_setLcX (m : Nat) {y : Str} {py spos : Pos} {scope : Scope} {own : List (Str × Nat)} {xs : List α} {G : α → β → Prop} {R : α → Exn → Prop} {bind : α → List Slot → List Slot} {g : TG} (hS : Src X Γ tg it xs) (hT : Tg X.K g bind (own.map (·.2))) (hg : ∀ s H C cl fp, PG (Blk X scope s H C cl fp) tg g)
    (he : ∀ x ∈ xs, ∀ s H cl fp, EXX (BlkA X scope s H cl fp) (bind x (wipeS Γ (own.map (·.2)))) elt (fun r => ∃ y, G x y ∧ r = .val j y) (R x)) (hN : X.N.Nodup) (hz : xs.length ≤ sizeLine)
    (hr : ∀ ad ys, ys.length = xs.length → (∀ (k : Nat) x y, xs[k]? = some x → ys[k]? = some y → G x y) → ST X rest (Γ.set m (.lst j ad ys)) E) (hR : ∀ (k : Nat) x, xs[k]? = some x → (∀ t, t < k → ∀ x', xs[t]? = some x' → ∃ y, G x' y) → ∀ e, R x e → E.ex Γ e)
    (ok : BlkOk X.N X.env.scope scope own := by exact blkOk_by (by decide +kernel)) (hy : autoParam (X.N[m]? = some y) aRfl) (hyl : autoParam (X.env.scope.names.lookup y = some .local) aRfl)
    (hsw : swapsWith (.ListComp elt [⟨tg, it, [], 0⟩] scope pos) (some (.Name y py)) spos.line X.env = pure true := by exact sw_true rfl rfl rfl (by decide +kernel))
    (hf : autoParam (X.env.frame = some X.env.locals) Tw.aRfl) (hst : autoParam (X.stack = X.env :: X.outer) Tw.aRfl)
    (hc : autoParam (X.calm = true) aRfl) (hs : autoParam (∀ x, foldedSetIterable it X.env x = pure x) Tw.aIR1) : ST X (.Assign [.Name y py] (.ListComp elt [⟨tg, it, [], 0⟩] scope pos) spos :: rest) Γ E := fun B F H σ D L ed => by
  obtain ⟨wi, hi, run⟩ := hS
  refine WP.cons (ps_setLcA (te := fun σd σ H Q => ∀ pins s3 H3 cl fp, Inv X pins σd H3 s3 → (∀ b ∈ fp, FpOk X pins H3 b) → WE (BlkA X scope s3 H3 cl fp) elt σ H Q) hc hN hy hyl hsw hi ok hg (fun _ _ _ _ _ => pts_nil) (fun pins σd s3 H3 cl fp I3 hfp => ⟨fun pins' s' σ' H' Q' I h => (h pins s3 H3 cl fp I3 hfp).go pins' s' I⟩) hs) ?_
  refine run B F H σ _ L fun J F1 H1 e1 Y D0 hD => ?_
  have L1 := L.step e1
  refine ⟨fun t m H' => m = xs.length - t ∧ t ≤ xs.length ∧ ∃ F2 acc, ∃ ys : List β, Ext F1 H1 F2 H' ∧ F2 D0 = none ∧ H' D0 = some (.lst acc) ∧ ys.length = t ∧ (∀ (k : Nat) x y, xs[k]? = some x → ys[k]? = some y → G x y) ∧ Paired (fun u x => j.rp X.K F2 u x) acc ys,
    ⟨xs.length, rfl, Nat.zero_le _, F1, [], [], Ext.apart L1.same hD, L1.same.free hD, upd_same, rfl, (fun k x y _ h => by simp at h), .nil⟩, ?_⟩
  rintro t m0 H2 ⟨rfl, ht', F2, acc, ys, e2, fD, hD2, hl, hG, pr⟩
  have Y2 := Y F2 H2 e2.ff e2.fh
  by_cases hlt : t < xs.length
  · have hx : xs[t]? = some xs[t] := List.getElem?_eq_getElem hlt
    have hmem : xs[t] ∈ xs := List.getElem_mem hlt
    obtain ⟨go, yl⟩ := Y2.1 t _ hx
    refine .inr ⟨go, fun H' => ∃ F3 acc, ∃ ys : List β, Ext F1 H1 F3 H' ∧ F3 D0 = none ∧ H' D0 = some (.lst acc) ∧ ys.length = t + 1 ∧ (∀ (k : Nat) x y, xs[k]? = some x → ys[k]? = some y → G x y) ∧ Paired (fun u x => j.rp X.K F3 u x) acc ys, fun H' h => ⟨xs.length - (t + 1), by omega, rfl, hlt, h⟩, fun v H3 hy => ?_⟩
    obtain ⟨F3, e3, r3⟩ := yl v H3 hy
    have L3 := ((L1.step e2).wipe (own.map (·.2))).step e3
    refine hT.run B F3 H3 _ _ v _ _ L3 r3 fun σ2 L4 hw => ⟨by rw [hw, wipe_wipe], ?_⟩
    show ∀ (pins : List (Addr × Obj)) (s3 : Shared) (H3' : Hp) (cl : List (Str × Addr)) (fp : List Addr), Inv X pins σ H3' s3 → (∀ b ∈ fp, FpOk X pins H3' b) → WE (BlkA X scope s3 H3' cl fp) _ σ2 H3 _
    intro pins s3 H3' cl fp I3 hfp
    refine he _ hmem s3 H3' cl fp B F3 H3 σ2 _ L4 (fun r w F5 H5 er e5 r5 => ?_) (fun x u d F5 H5 hx5 e5 ok5 => ?_)
    · obtain ⟨y, gy, rfl⟩ := er
      have e345 := e3.trans e5
      have hD5 : H5 D0 = some (.lst acc) := e345.hs _ _ hD2
      have fD5 : F5 D0 = none := e345.nw D0 fD (by rw [hD2]; exact fun z => nomatch z)
      have e25 := e2.trans e345
      have hla := Paired.length pr
      refine ⟨acc, hD5, by omega, F5, acc ++ [w], ys ++ [y], ⟨e25.ff, same_upd e25.fh fD5, fun b o nb ob => ?_, e25.nwM, fun _ z => z.elim⟩, fD5, upd_same, by rw [List.length_append, hl]; rfl, fun k x' y' hx' hy' => ?_, papp (Paired.mapP pr fun _ _ z => j.mono e345.ff z) (.cons r5 .nil)⟩
      · rw [upd_ne (ne_of_none ob hD)]; exact e25.hh b o nb ob
      · by_cases hk : k < t
        · rw [List.getElem?_append_left (by omega)] at hy'
          exact hG k x' y' hx' hy'
        · have hkl : k < (ys ++ [y]).length := (List.getElem?_eq_some_iff.mp hy').1
          rw [List.length_append, hl] at hkl
          have : k = t := by simp at hkl; omega
          subst this
          rw [hx] at hx'
          rw [List.getElem?_append_right (by omega), hl, Nat.sub_self] at hy'
          cases hx'
          cases hy'
          exact gy
    · refine xw_air I3 hfp hf hst ?_
      have e15 := (e2.trans (e3.trans e5))
      have eF : Ext F H F5 H5 := e1.trans ⟨e15.ff, e15.fh, e15.hh, e15.nwM, fun _ z => z.elim⟩
      refine ed.exS (Same.refl F) (hR t _ hx (fun t' ht' x' hx' => ?_) _ hx5) L eF (ok5.imp fun b hb => ?_)
      · have hyt : ys[t']? = some ys[t'] := List.getElem?_eq_getElem (by omega)
        exact ⟨_, hG t' x' _ hx' hyt⟩
      · have : H b = none := by
          have e13 := e1.trans (e2.trans e3)
          exact e13.hs.free hb
        exact this
  · have et : t = xs.length := by omega
    subst et
    exact .inl ⟨Y2.2, hr D0 ys hl hG B F2 H2 _ D (L.putL m (e1.trans e2) (e1.hs.free hD) fD hD2 pr) (ed.weak (e1.ff.trans e2.ff))⟩
end
end Tw
namespace Law
open PySem PySem.Spec PyProof.Rows L2 TL Tw
noncomputable def topS (i : Nat) : Stmt := PySem.Challenge.pw_quiltlaw_k27_trees_too_large.main.body.getD i (.Pass ⟨0, 0, 0, 0⟩)
noncomputable def clsS (i j : Nat) : Stmt := clsBody (topS i) j
noncomputable abbrev s_size_of : Stmt := topS 10
noncomputable abbrev N_size_of : List Str := ["picture"]
theorem sc_size_of : FnScope N_size_of ["picture"] (defScope s_size_of) := ⟨rfl, rfl, rfl, by decide +kernel, rfl, by decide +kernel, by decide +kernel⟩
noncomputable abbrev s_shown : Stmt := topS 11
noncomputable abbrev N_shown : List Str := ["picture"]
theorem sc_shown : FnScope N_shown ["picture"] (defScope s_shown) := ⟨rfl, rfl, rfl, by decide +kernel, rfl, by decide +kernel, by decide +kernel⟩
noncomputable abbrev s_windows_of : Stmt := topS 12
noncomputable abbrev N_windows_of : List Str := ["rows", "columns", "found", "top", "left", "bottom", "right"]
theorem sc_windows_of : FnScope N_windows_of ["rows", "columns"] (defScope s_windows_of) := ⟨rfl, rfl, rfl, by decide +kernel, rfl, by decide +kernel, by decide +kernel⟩
noncomputable abbrev s_cut_out : Stmt := topS 13
noncomputable abbrev N_cut_out : List Str := ["picture", "window", "top", "left", "bottom", "right", "row"]
theorem sc_cut_out : FnScope N_cut_out ["picture", "window"] (defScope s_cut_out) := ⟨rfl, rfl, rfl, by decide +kernel, rfl, by decide +kernel, by decide +kernel⟩
noncomputable abbrev bk_cut_out := @L2.blkOk_by N_cut_out (defScope s_cut_out)
noncomputable abbrev s_beside : Stmt := topS 14
noncomputable abbrev s_above : Stmt := topS 15
noncomputable abbrev s_parted : Stmt := topS 16
noncomputable abbrev N_parted : List Str := ["picture", "side_by_side", "at", "row"]
theorem sc_parted : FnScope N_parted ["picture", "side_by_side", "at"] (defScope s_parted) := ⟨rfl, rfl, rfl, by decide +kernel, rfl, by decide +kernel, by decide +kernel⟩
noncomputable abbrev bk_parted := @L2.blkOk_by N_parted (defScope s_parted)
noncomputable abbrev s_quarter : Stmt := topS 19
noncomputable abbrev N_quarter : List Str := ["picture", "rows", "column", "row"]
theorem sc_quarter : FnScope N_quarter ["picture"] (defScope s_quarter) := ⟨rfl, rfl, rfl, by decide +kernel, rfl, by decide +kernel, by decide +kernel⟩
noncomputable abbrev bk_quarter := @L2.blkOk_by N_quarter (defScope s_quarter)
noncomputable abbrev s_mirrored : Stmt := topS 20
noncomputable abbrev N_mirrored : List Str := ["picture", "row"]
theorem sc_mirrored : FnScope N_mirrored ["picture"] (defScope s_mirrored) := ⟨rfl, rfl, rfl, by decide +kernel, rfl, by decide +kernel, by decide +kernel⟩
noncomputable abbrev bk_mirrored := @L2.blkOk_by N_mirrored (defScope s_mirrored)
noncomputable abbrev s_turned : Stmt := topS 21
noncomputable abbrev N_turned : List Str := ["picture", "t", "seen", "turn"]
theorem sc_turned : FnScope N_turned ["picture", "t"] (defScope s_turned) := ⟨rfl, rfl, rfl, by decide +kernel, rfl, by decide +kernel, by decide +kernel⟩
noncomputable abbrev s_after : Stmt := topS 22
noncomputable abbrev s_back : Stmt := topS 23
noncomputable abbrev N_back : List Str := ["t"]
theorem sc_back : FnScope N_back ["t"] (defScope s_back) := ⟨rfl, rfl, rfl, by decide +kernel, rfl, by decide +kernel, by decide +kernel⟩
noncomputable abbrev s_many_cells : Stmt := topS 24
noncomputable abbrev N_many_cells : List Str := ["picture", "rows", "columns"]
theorem sc_many_cells : FnScope N_many_cells ["picture"] (defScope s_many_cells) := ⟨rfl, rfl, rfl, by decide +kernel, rfl, by decide +kernel, by decide +kernel⟩
noncomputable abbrev s_seen_in : Stmt := topS 25
noncomputable abbrev N_seen_in : List Str := ["picture", "rows", "columns", "found", "window", "part", "t", "seen"]
theorem sc_seen_in : FnScope N_seen_in ["picture"] (defScope s_seen_in) := ⟨rfl, rfl, rfl, by decide +kernel, rfl, by decide +kernel, by decide +kernel⟩
noncomputable abbrev s_is_name : Stmt := topS 31
noncomputable abbrev N_is_name : List Str := ["text", "sign"]
theorem sc_is_name : FnScope N_is_name ["text"] (defScope s_is_name) := ⟨rfl, rfl, rfl, by decide +kernel, rfl, by decide +kernel, by decide +kernel⟩
noncomputable abbrev bk_is_name := @L2.blkOk_by N_is_name (defScope s_is_name)
noncomputable abbrev s_asked_name : Stmt := topS 32
noncomputable abbrev N_asked_name : List Str := ["text"]
theorem sc_asked_name : FnScope N_asked_name ["text"] (defScope s_asked_name) := ⟨rfl, rfl, rfl, by decide +kernel, rfl, by decide +kernel, by decide +kernel⟩
noncomputable abbrev s_turned_pair : Stmt := topS 35
noncomputable abbrev s_name_in : Stmt := topS 40
noncomputable abbrev N_name_in : List Str := ["grammar", "name"]
theorem sc_name_in : FnScope N_name_in ["grammar", "name"] (defScope s_name_in) := ⟨rfl, rfl, rfl, by decide +kernel, rfl, by decide +kernel, by decide +kernel⟩
noncomputable abbrev s_uses_for : Stmt := topS 41
noncomputable abbrev N_uses_for : List Str := ["rule", "picture", "side_by_side", "found", "at", "first", "second"]
theorem sc_uses_for : FnScope N_uses_for ["rule", "picture"] (defScope s_uses_for) := ⟨rfl, rfl, rfl, by decide +kernel, rfl, by decide +kernel, by decide +kernel⟩
noncomputable abbrev s_cost_by : Stmt := topS 42
noncomputable abbrev N_cost_by : List Str := ["rule", "use", "told", "total", "picture", "name"]
theorem sc_cost_by : FnScope N_cost_by ["rule", "use", "told"] (defScope s_cost_by) := ⟨rfl, rfl, rfl, by decide +kernel, rfl, by decide +kernel, by decide +kernel⟩
noncomputable abbrev s_lowered : Stmt := topS 43
noncomputable abbrev N_lowered : List Str := ["told", "rule", "picture", "found", "key", "use", "cost"]
theorem sc_lowered : FnScope N_lowered ["told", "rule", "picture"] (defScope s_lowered) := ⟨rfl, rfl, rfl, by decide +kernel, rfl, by decide +kernel, by decide +kernel⟩
noncomputable abbrev s_settle : Stmt := topS 44
noncomputable abbrev N_settle : List Str := ["grammar", "told", "pictures", "turns", "rule", "picture", "again"]
theorem sc_settle : FnScope N_settle ["grammar", "told", "pictures"] (defScope s_settle) := ⟨rfl, rfl, rfl, by decide +kernel, rfl, by decide +kernel, by decide +kernel⟩
noncomputable abbrev s_cells_in : Stmt := topS 45
noncomputable abbrev N_cells_in : List Str := ["picture", "rows", "columns"]
theorem sc_cells_in : FnScope N_cells_in ["picture"] (defScope s_cells_in) := ⟨rfl, rfl, rfl, by decide +kernel, rfl, by decide +kernel, by decide +kernel⟩
noncomputable abbrev s_table_of : Stmt := topS 46
noncomputable abbrev N_table_of : List Str := ["grammar", "picture", "groups", "seen", "told", "cells"]
theorem sc_table_of : FnScope N_table_of ["grammar", "picture"] (defScope s_table_of) := ⟨rfl, rfl, rfl, by decide +kernel, rfl, by decide +kernel, by decide +kernel⟩
noncomputable abbrev s_numbers_in : Stmt := topS 48
noncomputable abbrev N_numbers_in : List Str := ["tree", "numbers", "part"]
theorem sc_numbers_in : FnScope N_numbers_in ["tree"] (defScope s_numbers_in) := ⟨rfl, rfl, rfl, by decide +kernel, rfl, by decide +kernel, by decide +kernel⟩
noncomputable abbrev s_first_use : Stmt := topS 52
noncomputable abbrev N_first_use : List Str := ["grammar", "told", "picture", "name", "due", "number", "rule", "use"]
theorem sc_first_use : FnScope N_first_use ["grammar", "told", "picture", "name"] (defScope s_first_use) := ⟨rfl, rfl, rfl, by decide +kernel, rfl, by decide +kernel, by decide +kernel⟩
noncomputable abbrev s_grown : Stmt := topS 53
noncomputable abbrev N_grown : List Str := ["grammar", "told", "picture", "name", "room", "number", "use", "parts", "part", "wanted"]
theorem sc_grown : FnScope N_grown ["grammar", "told", "picture", "name", "room"] (defScope s_grown) := ⟨rfl, rfl, rfl, by decide +kernel, rfl, by decide +kernel, by decide +kernel⟩
noncomputable abbrev bk_grown := @L2.blkOk_by N_grown (defScope s_grown)
noncomputable abbrev s_first_tree : Stmt := topS 54
noncomputable abbrev N_first_tree : List Str := ["grammar", "picture", "name", "told", "tree"]
theorem sc_first_tree : FnScope N_first_tree ["grammar", "picture", "name"] (defScope s_first_tree) := ⟨rfl, rfl, rfl, by decide +kernel, rfl, by decide +kernel, by decide +kernel⟩
noncomputable abbrev s_are_signs : Stmt := topS 59
noncomputable abbrev N_are_signs : List Str := ["text", "sign"]
theorem sc_are_signs : FnScope N_are_signs ["text"] (defScope s_are_signs) := ⟨rfl, rfl, rfl, by decide +kernel, rfl, by decide +kernel, by decide +kernel⟩
noncomputable abbrev bk_are_signs := @L2.blkOk_by N_are_signs (defScope s_are_signs)
noncomputable abbrev s_names_met : Stmt := topS 60
noncomputable abbrev N_names_met : List Str := ["start", "rules", "met", "rule", "name"]
theorem sc_names_met : FnScope N_names_met ["start", "rules"] (defScope s_names_met) := ⟨rfl, rfl, rfl, by decide +kernel, rfl, by decide +kernel, by decide +kernel⟩
noncomputable abbrev s_asked_rules : Stmt := topS 61
noncomputable abbrev N_asked_rules : List Str := ["signs", "rules", "k", "rule"]
theorem sc_asked_rules : FnScope N_asked_rules ["signs", "rules"] (defScope s_asked_rules) := ⟨rfl, rfl, rfl, by decide +kernel, rfl, by decide +kernel, by decide +kernel⟩
noncomputable abbrev s_law_cell : Stmt := topS 64
noncomputable abbrev N_law_cell : List Str := ["_law_script", "_law_k", "_law_cell_here", "_law_mixed"]
theorem sc_law_cell : FnScope N_law_cell ["_law_script", "_law_k"] (defScope s_law_cell) := ⟨rfl, rfl, rfl, by decide +kernel, rfl, by decide +kernel, by decide +kernel⟩
noncomputable abbrev s_law_signs : Stmt := topS 66
noncomputable abbrev N_law_signs : List Str := ["_law_cell_here", "_law_many", "_law_letters", "_law_step", "_law_k"]
theorem sc_law_signs : FnScope N_law_signs ["_law_cell_here", "_law_many"] (defScope s_law_signs) := ⟨rfl, rfl, rfl, by decide +kernel, rfl, by decide +kernel, by decide +kernel⟩
noncomputable abbrev bk_law_signs := @L2.blkOk_by N_law_signs (defScope s_law_signs)
noncomputable abbrev s_law_grammar : Stmt := topS 67
noncomputable abbrev N_law_grammar : List Str := ["_law_signs_here", "_law_start", "_law_rules", "_law_made", "_law_kind", "_law_name", "_law_cost", "_law_one", "_law_other"]
theorem sc_law_grammar : FnScope N_law_grammar ["_law_signs_here", "_law_start", "_law_rules"] (defScope s_law_grammar) := ⟨rfl, rfl, rfl, by decide +kernel, rfl, by decide +kernel, by decide +kernel⟩
noncomputable abbrev s_law_numbers : Stmt := topS 68
noncomputable abbrev N_law_numbers : List Str := ["_law_tree", "_law_many", "_law_part"]
theorem sc_law_numbers : FnScope N_law_numbers ["_law_tree"] (defScope s_law_numbers) := ⟨rfl, rfl, rfl, by decide +kernel, rfl, by decide +kernel, by decide +kernel⟩
noncomputable abbrev s_law_deep : Stmt := topS 69
noncomputable abbrev N_law_deep : List Str := ["_law_tree", "_law_part"]
theorem sc_law_deep : FnScope N_law_deep ["_law_tree"] (defScope s_law_deep) := ⟨rfl, rfl, rfl, by decide +kernel, rfl, by decide +kernel, by decide +kernel⟩
noncomputable abbrev bk_law_deep := @L2.blkOk_by N_law_deep (defScope s_law_deep)
noncomputable abbrev s_law_asked : Stmt := topS 70
noncomputable abbrev N_law_asked : List Str := ["_law_grammar_here", "_law_picture", "_law_found", "_law_kinds", "e"]
theorem sc_law_asked : FnScope N_law_asked ["_law_grammar_here", "_law_picture"] (defScope s_law_asked) := ⟨rfl, rfl, rfl, by decide +kernel, rfl, by decide +kernel, by decide +kernel⟩
noncomputable abbrev s_law_sheet : Stmt := topS 71
noncomputable abbrev N_law_sheet : List Str := ["_law_script", "_law_sign", "_law_names", "_law_chain", "_law_costs", "_law_rules", "_law_k", "_law_turn", "_law_cell_here", "_law_rows", "_law_columns", "_law_grammar_here", "_law_found", "_law_kinds", "_law_due", "_law_letter"]
theorem sc_law_sheet : FnScope N_law_sheet ["_law_script", "_law_sign"] (defScope s_law_sheet) := ⟨rfl, rfl, rfl, by decide +kernel, rfl, by decide +kernel, by decide +kernel⟩
noncomputable abbrev bk_law_sheet := @L2.blkOk_by N_law_sheet (defScope s_law_sheet)
noncomputable abbrev s_law_line : Stmt := topS 72
noncomputable abbrev N_law_line : List Str := ["_law_script", "_law_sign", "_law_names", "_law_costs", "_law_cell_here", "_law_cells", "_law_rest", "_law_start", "_law_rules", "_law_k", "_law_picture", "_law_due", "_law_grammar_here", "_law_found", "_law_kinds", "_law_letter"]
theorem sc_law_line : FnScope N_law_line ["_law_script", "_law_sign"] (defScope s_law_line) := ⟨rfl, rfl, rfl, by decide +kernel, rfl, by decide +kernel, by decide +kernel⟩
noncomputable abbrev bk_law_line := @L2.blkOk_by N_law_line (defScope s_law_line)
noncomputable abbrev s_law_corner : Stmt := topS 73
noncomputable abbrev N_law_corner : List Str := ["_law_script", "_law_signs_here", "_law_names", "_law_costs", "_law_rules", "_law_k", "_law_many", "_law_upper", "_law_grammar_here", "_law_found", "_law_kinds", "_law_letter"]
theorem sc_law_corner : FnScope N_law_corner ["_law_script", "_law_signs_here"] (defScope s_law_corner) := ⟨rfl, rfl, rfl, by decide +kernel, rfl, by decide +kernel, by decide +kernel⟩
noncomputable abbrev bk_law_corner := @L2.blkOk_by N_law_corner (defScope s_law_corner)
noncomputable abbrev s_law : Stmt := topS 74
noncomputable abbrev N_law : List Str := ["_law_script", "_law_signs_here"]
theorem sc_law : FnScope N_law ["_law_script"] (defScope s_law) := ⟨rfl, rfl, rfl, by decide +kernel, rfl, by decide +kernel, by decide +kernel⟩
noncomputable abbrev s_Rule_init : Stmt := clsS 33 0
noncomputable abbrev N_Rule_init : List Str := ["self", "name", "cost"]
theorem sc_Rule_init : FnScope N_Rule_init ["self", "name", "cost"] (defScope s_Rule_init) := ⟨rfl, rfl, rfl, by decide +kernel, rfl, by decide +kernel, by decide +kernel⟩
noncomputable abbrev s_Rule_parts : Stmt := clsS 33 1
noncomputable abbrev N_Rule_parts : List Str := ["self"]
theorem sc_Rule_parts : FnScope N_Rule_parts ["self"] (defScope s_Rule_parts) := ⟨rfl, rfl, rfl, by decide +kernel, rfl, by decide +kernel, by decide +kernel⟩
noncomputable abbrev s_Rule_begun : Stmt := clsS 33 2
noncomputable abbrev s_CellRule_init : Stmt := clsS 34 0
noncomputable abbrev N_CellRule_init : List Str := ["self", "name", "cost", "sign"]
theorem sc_CellRule_init : FnScope N_CellRule_init ["self", "name", "cost", "sign"] (defScope s_CellRule_init) := ⟨rfl, rfl, rfl, by decide +kernel, rfl, by decide +kernel, by decide +kernel⟩
noncomputable abbrev s_CellRule_told : Stmt := clsS 34 4
noncomputable abbrev s_BesideRule_init : Stmt := clsS 36 0
noncomputable abbrev N_BesideRule_init : List Str := ["self", "name", "cost", "one", "other"]
theorem sc_BesideRule_init : FnScope N_BesideRule_init ["self", "name", "cost", "one", "other"] (defScope s_BesideRule_init) := ⟨rfl, rfl, rfl, by decide +kernel, rfl, by decide +kernel, by decide +kernel⟩
noncomputable abbrev s_BesideRule_parts : Stmt := clsS 36 1
noncomputable abbrev N_BesideRule_parts : List Str := ["self"]
theorem sc_BesideRule_parts : FnScope N_BesideRule_parts ["self"] (defScope s_BesideRule_parts) := ⟨rfl, rfl, rfl, by decide +kernel, rfl, by decide +kernel, by decide +kernel⟩
noncomputable abbrev s_BesideRule_told : Stmt := clsS 36 5
noncomputable abbrev s_AboveRule_init : Stmt := clsS 37 0
noncomputable abbrev N_AboveRule_init : List Str := ["self", "name", "cost", "one", "other"]
theorem sc_AboveRule_init : FnScope N_AboveRule_init ["self", "name", "cost", "one", "other"] (defScope s_AboveRule_init) := ⟨rfl, rfl, rfl, by decide +kernel, rfl, by decide +kernel, by decide +kernel⟩
noncomputable abbrev s_AboveRule_parts : Stmt := clsS 37 1
noncomputable abbrev N_AboveRule_parts : List Str := ["self"]
theorem sc_AboveRule_parts : FnScope N_AboveRule_parts ["self"] (defScope s_AboveRule_parts) := ⟨rfl, rfl, rfl, by decide +kernel, rfl, by decide +kernel, by decide +kernel⟩
noncomputable abbrev s_AboveRule_told : Stmt := clsS 37 5
noncomputable abbrev s_TurnRule_init : Stmt := clsS 38 0
noncomputable abbrev N_TurnRule_init : List Str := ["self", "name", "cost", "part", "turning"]
theorem sc_TurnRule_init : FnScope N_TurnRule_init ["self", "name", "cost", "part", "turning"] (defScope s_TurnRule_init) := ⟨rfl, rfl, rfl, by decide +kernel, rfl, by decide +kernel, by decide +kernel⟩
noncomputable abbrev s_TurnRule_parts : Stmt := clsS 38 1
noncomputable abbrev N_TurnRule_parts : List Str := ["self"]
theorem sc_TurnRule_parts : FnScope N_TurnRule_parts ["self"] (defScope s_TurnRule_parts) := ⟨rfl, rfl, rfl, by decide +kernel, rfl, by decide +kernel, by decide +kernel⟩
noncomputable abbrev s_TurnRule_told : Stmt := clsS 38 5
noncomputable abbrev s_Grammar_init : Stmt := clsS 62 0
noncomputable abbrev N_Grammar_init : List Str := ["self", "signs", "start", "rules", "met"]
theorem sc_Grammar_init : FnScope N_Grammar_init ["self", "signs", "start", "rules"] (defScope s_Grammar_init) := ⟨rfl, rfl, rfl, by decide +kernel, rfl, by decide +kernel, by decide +kernel⟩
noncomputable abbrev s_Grammar_rules : Stmt := clsS 62 1
noncomputable abbrev N_Grammar_rules : List Str := ["self"]
theorem sc_Grammar_rules : FnScope N_Grammar_rules ["self"] (defScope s_Grammar_rules) := ⟨rfl, rfl, rfl, by decide +kernel, rfl, by decide +kernel, by decide +kernel⟩
noncomputable abbrev s_Grammar_rule : Stmt := clsS 62 2
noncomputable abbrev N_Grammar_rule : List Str := ["self", "k"]
theorem sc_Grammar_rule : FnScope N_Grammar_rule ["self", "k"] (defScope s_Grammar_rule) := ⟨rfl, rfl, rfl, by decide +kernel, rfl, by decide +kernel, by decide +kernel⟩
noncomputable abbrev s_Grammar_names : Stmt := clsS 62 4
noncomputable abbrev N_Grammar_names : List Str := ["self"]
theorem sc_Grammar_names : FnScope N_Grammar_names ["self"] (defScope s_Grammar_names) := ⟨rfl, rfl, rfl, by decide +kernel, rfl, by decide +kernel, by decide +kernel⟩
noncomputable abbrev s_Grammar_numbers_of : Stmt := clsS 62 5
noncomputable abbrev N_Grammar_numbers_of : List Str := ["self", "name", "k", "rule"]
theorem sc_Grammar_numbers_of : FnScope N_Grammar_numbers_of ["self", "name"] (defScope s_Grammar_numbers_of) := ⟨rfl, rfl, rfl, by decide +kernel, rfl, by decide +kernel, by decide +kernel⟩
noncomputable abbrev bk_Grammar_numbers_of := @L2.blkOk_by N_Grammar_numbers_of (defScope s_Grammar_numbers_of)
noncomputable abbrev s_Grammar_told : Stmt := clsS 62 6
noncomputable abbrev s_NoGrammar_init : Stmt := clsS 4 0
noncomputable abbrev N_NoGrammar_init : List Str := ["self", "why"]
theorem sc_NoGrammar_init : FnScope N_NoGrammar_init ["self", "why"] (defScope s_NoGrammar_init) := ⟨rfl, rfl, rfl, by decide +kernel, rfl, by decide +kernel, by decide +kernel⟩
structure Txt (K : PySem.W.Frag) (mg : Str → Option Value) : Prop where
  b_ValueError : mg "ValueError" = none
  b_all : mg "all" = none
  b_bool : mg "bool" = none
  b_enumerate : mg "enumerate" = none
  b_int : mg "int" = none
  b_isinstance : mg "isinstance" = none
  b_len : mg "len" = none
  b_list : mg "list" = none
  b_max : mg "max" = none
  b_range : mg "range" = none
  b_reversed : mg "reversed" = none
  b_set : mg "set" = none
  b_sorted : mg "sorted" = none
  b_str : mg "str" = none
  b_tuple : mg "tuple" = none
  b_zip : mg "zip" = none
  c_MOST : ∃ t, mg "MOST" = some (.int 6 t)
  c_MIRROR : ∃ t, mg "MIRROR" = some (.int 4 t)
  c_CAPITALS : ∃ t, mg "CAPITALS" = some (.str (Str.ofString "ABCDEFGHIJKLMNOPQRSTUVWXYZ") t)
  c_SMALL : ∃ t, mg "SMALL" = some (.str (Str.ofString "abcdefghijklmnopqrstuvwxyz") t)
  c_MOST_LETTERS : ∃ t, mg "MOST_LETTERS" = some (.int 4 t)
  c_MOST_COST : ∃ t, mg "MOST_COST" = some (.int 9 t)
  c_MOST_NUMBERS : ∃ t, mg "MOST_NUMBERS" = some (.int 200 t)
  c_MOST_WITHIN : ∃ t, mg "MOST_WITHIN" = some (.int 60 t)
  c_MOST_SIGNS : ∃ t, mg "MOST_SIGNS" = some (.int 4 t)
  c_MOST_RULES : ∃ t, mg "MOST_RULES" = some (.int 24 t)
  c_MOST_NAMES : ∃ t, mg "MOST_NAMES" = some (.int 8 t)
  x_QuiltError : XC K mg "QuiltError"
  x_NoFit : XC K mg "NoFit"
  x_NoRule : XC K mg "NoRule"
  x_NoGrammar : XC K mg "NoGrammar"
  x_NoName : XC K mg "NoName"
  x_TooMany : XC K mg "TooMany"
  x_NoNumber : XC K mg "NoNumber"
  p_NoFit : XPlain K "NoFit"
  p_NoRule : XPlain K "NoRule"
  p_NoName : XPlain K "NoName"
  p_TooMany : XPlain K "TooMany"
  i_NoGrammar : Dx K "NoGrammar" "why" "NoGrammar.__init__" s_NoGrammar_init ["self", "why"]
  q_QuiltError : ∃ D, XBase K mg "QuiltError" D
  s_NoFit_QuiltError : XSub K "NoFit" "QuiltError" true
  s_NoFit_TooMany : XSub K "NoFit" "TooMany" false
  s_NoFit_NoFit : XSub K "NoFit" "NoFit" true
  s_NoFit_NoName : XSub K "NoFit" "NoName" false
  s_NoFit_NoNumber : XSub K "NoFit" "NoNumber" false
  s_NoRule_QuiltError : XSub K "NoRule" "QuiltError" true
  s_NoRule_TooMany : XSub K "NoRule" "TooMany" false
  s_NoRule_NoFit : XSub K "NoRule" "NoFit" false
  s_NoRule_NoName : XSub K "NoRule" "NoName" false
  s_NoRule_NoNumber : XSub K "NoRule" "NoNumber" false
  s_NoName_QuiltError : XSub K "NoName" "QuiltError" true
  s_NoName_TooMany : XSub K "NoName" "TooMany" false
  s_NoName_NoFit : XSub K "NoName" "NoFit" false
  s_NoName_NoName : XSub K "NoName" "NoName" true
  s_NoName_NoNumber : XSub K "NoName" "NoNumber" false
  s_TooMany_QuiltError : XSub K "TooMany" "QuiltError" true
  s_TooMany_TooMany : XSub K "TooMany" "TooMany" true
  s_TooMany_NoFit : XSub K "TooMany" "NoFit" false
  s_TooMany_NoName : XSub K "TooMany" "NoName" false
  s_TooMany_NoNumber : XSub K "TooMany" "NoNumber" false
  s_NoGrammar_QuiltError : XSub K "NoGrammar" "QuiltError" true
  s_NoGrammar_TooMany : XSub K "NoGrammar" "TooMany" false
  s_NoGrammar_NoFit : XSub K "NoGrammar" "NoFit" false
  s_NoGrammar_NoName : XSub K "NoGrammar" "NoName" false
  s_NoGrammar_NoNumber : XSub K "NoGrammar" "NoNumber" false
  o_Rule : OC K mg "Rule"
  o_CellRule : OC K mg "CellRule"
  o_BesideRule : OC K mg "BesideRule"
  o_AboveRule : OC K mg "AboveRule"
  o_TurnRule : OC K mg "TurnRule"
  o_Grammar : OC K mg "Grammar"
  a_Rule_name : NoA K "Rule" "name"
  a_Rule_cost : NoA K "Rule" "cost"
  m_Rule_init : Dm K "Rule" "__init__" "Rule.__init__" s_Rule_init ["self", "name", "cost"]
  a_CellRule_sign : NoA K "CellRule" "sign"
  a_CellRule_name : NoA K "CellRule" "name"
  a_CellRule_cost : NoA K "CellRule" "cost"
  m_CellRule_init : Dm K "CellRule" "__init__" "CellRule.__init__" s_CellRule_init ["self", "name", "cost", "sign"]
  m_CellRule_told : Dm K "CellRule" "told" "CellRule.told" s_CellRule_told ["self"]
  m_CellRule_parts : Dm K "CellRule" "parts" "Rule.parts" s_Rule_parts ["self"]
  m_CellRule_begun : Dm K "CellRule" "begun" "Rule.begun" s_Rule_begun ["self"]
  a_BesideRule_one : NoA K "BesideRule" "one"
  a_BesideRule_other : NoA K "BesideRule" "other"
  a_BesideRule_name : NoA K "BesideRule" "name"
  a_BesideRule_cost : NoA K "BesideRule" "cost"
  m_BesideRule_init : Dm K "BesideRule" "__init__" "BesideRule.__init__" s_BesideRule_init ["self", "name", "cost", "one", "other"]
  m_BesideRule_parts : Dm K "BesideRule" "parts" "BesideRule.parts" s_BesideRule_parts ["self"]
  m_BesideRule_told : Dm K "BesideRule" "told" "BesideRule.told" s_BesideRule_told ["self"]
  m_BesideRule_begun : Dm K "BesideRule" "begun" "Rule.begun" s_Rule_begun ["self"]
  a_AboveRule_one : NoA K "AboveRule" "one"
  a_AboveRule_other : NoA K "AboveRule" "other"
  a_AboveRule_name : NoA K "AboveRule" "name"
  a_AboveRule_cost : NoA K "AboveRule" "cost"
  m_AboveRule_init : Dm K "AboveRule" "__init__" "AboveRule.__init__" s_AboveRule_init ["self", "name", "cost", "one", "other"]
  m_AboveRule_parts : Dm K "AboveRule" "parts" "AboveRule.parts" s_AboveRule_parts ["self"]
  m_AboveRule_told : Dm K "AboveRule" "told" "AboveRule.told" s_AboveRule_told ["self"]
  m_AboveRule_begun : Dm K "AboveRule" "begun" "Rule.begun" s_Rule_begun ["self"]
  a_TurnRule_part : NoA K "TurnRule" "part"
  a_TurnRule_turning : NoA K "TurnRule" "turning"
  a_TurnRule_name : NoA K "TurnRule" "name"
  a_TurnRule_cost : NoA K "TurnRule" "cost"
  m_TurnRule_init : Dm K "TurnRule" "__init__" "TurnRule.__init__" s_TurnRule_init ["self", "name", "cost", "part", "turning"]
  m_TurnRule_parts : Dm K "TurnRule" "parts" "TurnRule.parts" s_TurnRule_parts ["self"]
  m_TurnRule_told : Dm K "TurnRule" "told" "TurnRule.told" s_TurnRule_told ["self"]
  m_TurnRule_begun : Dm K "TurnRule" "begun" "Rule.begun" s_Rule_begun ["self"]
  a_Grammar_signs : NoA K "Grammar" "signs"
  a_Grammar_start : NoA K "Grammar" "start"
  a_Grammar_kept_rules : NoA K "Grammar" "kept_rules"
  a_Grammar_kept_names : NoA K "Grammar" "kept_names"
  m_Grammar_init : Dm K "Grammar" "__init__" "Grammar.__init__" s_Grammar_init ["self", "signs", "start", "rules"]
  m_Grammar_rules : Dm K "Grammar" "rules" "Grammar.rules" s_Grammar_rules ["self"]
  m_Grammar_rule : Dm K "Grammar" "rule" "Grammar.rule" s_Grammar_rule ["self", "k"]
  m_Grammar_names : Dm K "Grammar" "names" "Grammar.names" s_Grammar_names ["self"]
  m_Grammar_numbers_of : Dm K "Grammar" "numbers_of" "Grammar.numbers_of" s_Grammar_numbers_of ["self", "name"]
  m_Grammar_told : Dm K "Grammar" "told" "Grammar.told" s_Grammar_told ["self"]
  z_Rule : CInit K "Rule"
  u_CellRule_CellRule : OSub K "CellRule" "CellRule" true
  u_CellRule_TurnRule : OSub K "CellRule" "TurnRule" false
  u_CellRule_BesideRule : OSub K "CellRule" "BesideRule" false
  u_BesideRule_CellRule : OSub K "BesideRule" "CellRule" false
  u_BesideRule_TurnRule : OSub K "BesideRule" "TurnRule" false
  u_BesideRule_BesideRule : OSub K "BesideRule" "BesideRule" true
  u_AboveRule_CellRule : OSub K "AboveRule" "CellRule" false
  u_AboveRule_TurnRule : OSub K "AboveRule" "TurnRule" false
  u_AboveRule_BesideRule : OSub K "AboveRule" "BesideRule" false
  u_TurnRule_CellRule : OSub K "TurnRule" "CellRule" false
  u_TurnRule_TurnRule : OSub K "TurnRule" "TurnRule" true
  u_TurnRule_BesideRule : OSub K "TurnRule" "BesideRule" false
  u_Grammar_CellRule : OSub K "Grammar" "CellRule" false
  u_Grammar_TurnRule : OSub K "Grammar" "TurnRule" false
  u_Grammar_BesideRule : OSub K "Grammar" "BesideRule" false
  f_size_of : Df K mg "size_of" s_size_of ["picture"]
  f_shown : Df K mg "shown" s_shown ["picture"]
  f_windows_of : Df K mg "windows_of" s_windows_of ["rows", "columns"]
  f_cut_out : Df K mg "cut_out" s_cut_out ["picture", "window"]
  f_beside : Df K mg "beside" s_beside ["one", "other"]
  f_above : Df K mg "above" s_above ["one", "other"]
  f_parted : Df K mg "parted" s_parted ["picture", "side_by_side", "at"]
  f_quarter : Df K mg "quarter" s_quarter ["picture"]
  f_mirrored : Df K mg "mirrored" s_mirrored ["picture"]
  f_turned : Df K mg "turned" s_turned ["picture", "t"]
  f_after : Df K mg "after" s_after ["t", "u"]
  f_back : Df K mg "back" s_back ["t"]
  f_many_cells : Df K mg "many_cells" s_many_cells ["picture"]
  f_seen_in : Df K mg "seen_in" s_seen_in ["picture"]
  f_is_name : Df K mg "is_name" s_is_name ["text"]
  f_asked_name : Df K mg "asked_name" s_asked_name ["text"]
  f_turned_pair : Df K mg "turned_pair" s_turned_pair ["name", "cost", "names", "t"]
  f_name_in : Df K mg "name_in" s_name_in ["grammar", "name"]
  f_uses_for : Df K mg "uses_for" s_uses_for ["rule", "picture"]
  f_cost_by : Df K mg "cost_by" s_cost_by ["rule", "use", "told"]
  f_lowered : Df K mg "lowered" s_lowered ["told", "rule", "picture"]
  f_settle : Df K mg "settle" s_settle ["grammar", "told", "pictures"]
  f_cells_in : Df K mg "cells_in" s_cells_in ["picture"]
  f_table_of : Df K mg "table_of" s_table_of ["grammar", "picture"]
  f_numbers_in : Df K mg "numbers_in" s_numbers_in ["tree"]
  f_first_use : Df K mg "first_use" s_first_use ["grammar", "told", "picture", "name"]
  f_grown : Df K mg "grown" s_grown ["grammar", "told", "picture", "name", "room"]
  f_first_tree : DfD K mg "first_tree" s_first_tree ["grammar", "picture", "name"]
  f_are_signs : Df K mg "are_signs" s_are_signs ["text"]
  f_names_met : Df K mg "names_met" s_names_met ["start", "rules"]
  f_asked_rules : Df K mg "asked_rules" s_asked_rules ["signs", "rules"]
  f_law_cell : Df K mg "_law_cell" s_law_cell ["_law_script", "_law_k"]
  f_law_signs : Df K mg "_law_signs" s_law_signs ["_law_cell_here", "_law_many"]
  f_law_grammar : Df K mg "_law_grammar" s_law_grammar ["_law_signs_here", "_law_start", "_law_rules"]
  f_law_numbers : Df K mg "_law_numbers" s_law_numbers ["_law_tree"]
  f_law_deep : Df K mg "_law_deep" s_law_deep ["_law_tree"]
  f_law_asked : Df K mg "_law_asked" s_law_asked ["_law_grammar_here", "_law_picture"]
  f_law_sheet : Df K mg "_law_sheet" s_law_sheet ["_law_script", "_law_sign"]
  f_law_line : Df K mg "_law_line" s_law_line ["_law_script", "_law_sign"]
  f_law_corner : Df K mg "_law_corner" s_law_corner ["_law_script", "_law_signs_here"]
section
variable {P : Program} {w : World} {K : PySem.W.Frag} {mg : Str → Option Value} {base : Heap}
theorem init_NoGrammar (T : Txt K mg) : XInit P w K mg base 1 "NoGrammar" "why" := XInit.of T.i_NoGrammar sc_NoGrammar_init rfl fun C fI TC hno cdv A outer s H E a v Q ha hq => by
  obtain ⟨D, bD⟩ := T.q_QuiltError
  exact WP.cons (ps_expr (pe_qinit bD (pa_cons (pe_var (i := 0) rfl (.inl rfl)) (pa_cons pe_str pa_nil))) rfl) ⟨_, rfl, a, C, _, rfl, by decide, TC, ha, WP.cons (ps_ost (pe_var (i := 0) rfl (.inl rfl)) (pe_var (i := 1) rfl (.inl rfl)) rfl) ⟨v, rfl, _, rfl, a, C, rfl, TC, hno, .inl ⟨ha, fun dx h1 h2 => WP.of pss_nil (hq dx h1 h2)⟩⟩⟩
end
noncomputable def lawCell (s : List Int) (k : Int) : Int :=
  let c := if k < s.length then s.getD k.toNat 0 else 0
  let m := (c % 2147483647 + 7919 * k + 1) * 48271 % 2147483647
  c / 2147483647 * 2147483647 + (m * 69621 + k) % 2147483647
noncomputable def cellS : Tw.Spec := fun A P _ => ∃ (s : Scr) (k : Int), A = [vl s, vl k] ∧ s.l.length ≤ 63 ∧ 0 ≤ k ∧ P (rv (lawCell s.l k))
theorem getD_ok {signs : Tx} (h : TxOk signs) (n : Nat) : signs.getD n 0 < 1114112 := by
  rw [List.getD_eq_getElem?_getD]
  cases e : signs[n]? with
  | none => decide
  | some x => exact h x (List.mem_of_getElem? e)
section
variable {P : Program} {w : World} {K : PySem.W.Frag} {mg : Str → Option Value} {base : Heap}
theorem mulR {i j : Int} (h1 : autoParam (-(2 ^ 64) < j) Tw.aDec) (h2 : autoParam (j < 2 ^ 64) Tw.aDec) : CMul i j := .inr ⟨h1, h2⟩
theorem mulL {i j : Int} (h1 : autoParam (-(2 ^ 64) < i) Tw.aDec) (h2 : autoParam (i < 2 ^ 64) Tw.aDec) : CMul i j := .inl ⟨h1, h2⟩
theorem divK {i j : Int} (h : autoParam (0 < j) Tw.aDec) (h2 : autoParam (j.natAbs.log2 < 9000) Tw.aDec) : CDivW i j := ⟨h, h2⟩
theorem ok_law_cell (T : Txt K mg) : Has P w K mg base 1 "_law_cell" ["_law_script", "_law_k"] cellS := by
  refine Has.of T.f_law_cell sc_law_cell (fun A Q R ⟨s, k, e, _⟩ => by rw [e]; rfl) fun f cdv A outer s0 H E hr Γ Q R ⟨s, k, e, hl, hk, hq⟩ => ?_
  subst e
  refine st_set 2 ev_int ?_ sc_law_cell.nd
  have go : ∀ c : Int, c = (if k < s.l.length then s.l.getD k.toNat 0 else 0) → Tw.ST (cxOf (L2.CX P w) P w K mg base N_law_cell "_law_cell" (defScope s_law_cell) f cdv A outer s0 H E).nox ((defBody s_law_cell).drop 2) [vl s, vl k, vl c, .no] (fin Q) := by
    intro c ec
    refine st_set 3 (ev_bin (o_mod (by decide)) (ev_bin (o_mul mulR) (ev_bin o_add (ev_bin o_add (ev_bin (o_mod (by decide)) (ev_var 2) ev_int) (ev_bin (o_mul mulL) ev_int (ev_var 1))) ev_int) ev_int) ev_int) ?_ sc_law_cell.nd
    refine st_retV (ev_bin o_add (ev_bin (o_mul mulR) (ev_bin (o_div divK) (ev_var 2) ev_int) ev_int) (ev_bin (o_mod (by decide)) (ev_bin o_add (ev_bin (o_mul mulR) (ev_var 3) ev_int) (ev_var 1)) ev_int)) ?_
    unfold lawCell at hq
    rw [← ec] at hq
    exact hq
  refine st_if (et_cmp o_lt (ev_var 1) (ev_lenScr T.b_len (ev_var 0))) (fun h => ?_) (fun h => ?_)
  · have h1 := of_decide_eq_true h
    have hlt : k.toNat < s.l.length := by omega
    refine st_set 2 (ev_ixScr (x := s.l.getD k.toNat 0) (ev_var 0) (ev_var 1) ?_) (st_nil (go _ ?_)) sc_law_cell.nd
    · have := atI_nat (xs := s.l) (j := k.toNat) (List.getElem?_eq_getElem hlt)
      rw [show ((k.toNat : Nat) : Int) = k by omega] at this
      rw [this, List.getD_eq_getElem?_getD, List.getElem?_eq_getElem hlt]; rfl
    · rw [if_pos h1]
  · have h1 := of_decide_eq_false h
    refine st_nil (go _ ?_)
    rw [if_neg h1]
end
noncomputable abbrev capTx : Tx := tx "ABCDEFGHIJKLMNOPQRSTUVWXYZ"
noncomputable abbrev smallTx : Tx := tx "abcdefghijklmnopqrstuvwxyz"
noncomputable def isName (x : Tx) : Bool := (decide (1 ≤ x.length) && decide (x.length ≤ 4)) && x.all fun c => decide (c ∈ capTx)
theorem isName_len {x : Tx} (h : isName x = true) : x.length ≤ 4 := by
  unfold isName at h
  simp only [Bool.and_eq_true, decide_eq_true_eq] at h
  exact h.1.2
theorem small_lt : ∀ c ∈ smallTx, c < 128 := by decide +kernel
set_option genInjectivity true in
inductive RuleD where
  | cell (name : Tx) (cost : Int) (sign : Tx)
  | beside (name : Tx) (cost : Int) (one other : Tx)
  | above (name : Tx) (cost : Int) (one other : Tx)
  | turn (name : Tx) (cost : Int) (part : Tx) (turning : Int)
  deriving DecidableEq
noncomputable def RuleD.cls : RuleD → Str
  | .cell .. => "CellRule"
  | .beside .. => "BesideRule"
  | .above .. => "AboveRule"
  | .turn .. => "TurnRule"
noncomputable def RuleD.name : RuleD → Tx
  | .cell n _ _ => n
  | .beside n _ _ _ => n
  | .above n _ _ _ => n
  | .turn n _ _ _ => n
noncomputable def RuleD.cost : RuleD → Int
  | .cell _ c _ => c
  | .beside _ c _ _ => c
  | .above _ c _ _ => c
  | .turn _ c _ _ => c
noncomputable def RuleD.parts : RuleD → List Tx
  | .cell .. => []
  | .beside _ _ a b => [a, b]
  | .above _ _ a b => [a, b]
  | .turn _ _ a _ => [a]
noncomputable def RuleD.begun (r : RuleD) : Tx := r.name ++ tx " " ++ strI r.cost ++ tx ": "
noncomputable def RuleD.told (r : RuleD) : Tx := match r with
  | .cell _ _ s => r.begun ++ s
  | .beside _ _ a b => r.begun ++ a ++ tx " | " ++ b
  | .above _ _ a b => r.begun ++ a ++ tx " / " ++ b
  | .turn _ _ a t => r.begun ++ a ++ tx " turned " ++ strI t
noncomputable def RuleD.flds : RuleD → List (Str × Slot)
  | .cell n c s => [("name", vl n), ("cost", vl c), ("sign", vl s)]
  | .beside n c a b => [("name", vl n), ("cost", vl c), ("one", vl a), ("other", vl b)]
  | .above n c a b => [("name", vl n), ("cost", vl c), ("one", vl a), ("other", vl b)]
  | .turn n c a t => [("name", vl n), ("cost", vl c), ("part", vl a), ("turning", vl t)]
noncomputable instance : Inst RuleD := ⟨RuleD.cls, RuleD.flds⟩
noncomputable def costOk (c : Int) : Bool := decide (1 ≤ c) && decide (c ≤ 9)
noncomputable def signOk (s : Tx) : Bool := decide (s.length = 1) && s.all fun c => decide (c ∈ smallTx)
noncomputable def RuleD.good : RuleD → Bool
  | .cell n c s => signOk s && (costOk c && isName n)
  | .beside n c a b => (costOk c && isName n) && (isName a && isName b)
  | .above n c a b => (costOk c && isName n) && (isName a && isName b)
  | .turn n c a t => (decide (0 ≤ t) && decide (t ≤ 7)) && ((costOk c && isName n) && isName a)
noncomputable def NoRule : Exn := ⟨"NoRule", "", .no⟩
noncomputable def nameS : Tw.Spec := fun A P _ => ∃ (x : Tx), A = [vl x] ∧ x.length ≤ 1000 ∧ P (rv (isName x))
noncomputable def askedS : Tw.Spec := fun A P R => ∃ (x : Tx), A = [vl x] ∧ x.length ≤ 1000 ∧ (isName x = true → P (rv x)) ∧ (isName x = false → R NoRule)
noncomputable def ruleInitS (K : PySem.W.Frag) : Tw.Spec := fun A P R => ∃ (C a dx : Addr) (n : Tx) (c : Int), A = [.own (ownI C a dx []), vl n, vl c] ∧ Cls K C ∧ NoAttr K C "name" ∧ NoAttr K C "cost" ∧ n.length ≤ 1000 ∧
  ((costOk c && isName n) = true → P (.chg repUnit () [ownI C a dx [("name", vl n), ("cost", vl c)]])) ∧ ((costOk c && isName n) = false → R NoRule)
noncomputable def cellInitS (K : PySem.W.Frag) : Tw.Spec := fun A P R => ∃ (C a dx : Addr) (n : Tx) (c : Int) (s : Tx), A = [.own (ownI C a dx []), vl n, vl c, vl s] ∧ PySem.W.nsIn K mainGlobals "CellRule" = some (some (.ref C)) ∧ n.length ≤ 1000 ∧ s.length ≤ 1000 ∧
  ((RuleD.cell n c s).good = true → P (.chg repUnit () [ownI C a dx (RuleD.cell n c s).flds])) ∧ ((RuleD.cell n c s).good = false → R NoRule)
noncomputable def besideInitS (K : PySem.W.Frag) : Tw.Spec := fun A P R => ∃ (C a dx : Addr) (n : Tx) (c : Int) (x y : Tx), A = [.own (ownI C a dx []), vl n, vl c, vl x, vl y] ∧ PySem.W.nsIn K mainGlobals "BesideRule" = some (some (.ref C)) ∧ n.length ≤ 1000 ∧ x.length ≤ 1000 ∧ y.length ≤ 1000 ∧
  ((RuleD.beside n c x y).good = true → P (.chg repUnit () [ownI C a dx (RuleD.beside n c x y).flds])) ∧ ((RuleD.beside n c x y).good = false → R NoRule)
noncomputable def aboveInitS (K : PySem.W.Frag) : Tw.Spec := fun A P R => ∃ (C a dx : Addr) (n : Tx) (c : Int) (x y : Tx), A = [.own (ownI C a dx []), vl n, vl c, vl x, vl y] ∧ PySem.W.nsIn K mainGlobals "AboveRule" = some (some (.ref C)) ∧ n.length ≤ 1000 ∧ x.length ≤ 1000 ∧ y.length ≤ 1000 ∧
  ((RuleD.above n c x y).good = true → P (.chg repUnit () [ownI C a dx (RuleD.above n c x y).flds])) ∧ ((RuleD.above n c x y).good = false → R NoRule)
noncomputable def turnInitS (K : PySem.W.Frag) : Tw.Spec := fun A P R => ∃ (C a dx : Addr) (n : Tx) (c : Int) (x : Tx) (t : Int), A = [.own (ownI C a dx []), vl n, vl c, vl x, vl t] ∧ PySem.W.nsIn K mainGlobals "TurnRule" = some (some (.ref C)) ∧ n.length ≤ 1000 ∧ x.length ≤ 1000 ∧
  ((RuleD.turn n c x t).good = true → P (.chg repUnit () [ownI C a dx (RuleD.turn n c x t).flds])) ∧ ((RuleD.turn n c x t).good = false → R NoRule)
theorem OC.cl {K : PySem.W.Frag} {mg : Str → Option Value} {n : Str} {C : Addr} (h : OC K mg n) (e : PySem.W.nsIn K mainGlobals n = some (some (.ref C))) : Cls K C := by
  obtain ⟨D, kD, _⟩ := h
  obtain rfl := ns_one kD.ns e
  exact kD.cl
section
variable {P : Program} {w : World} {K : PySem.W.Frag} {mg : Str → Option Value} {base : Heap}
theorem lk {f : Str} {fs : List (Str × Slot)} (h : (fs.map (·.1)).contains f = false) : fs.lookup f = none := by
  induction fs with
  | nil => rfl
  | cons p fs ih =>
    obtain ⟨g, s⟩ := p
    rw [List.map_cons, List.contains_cons, Bool.or_eq_false_iff] at h
    rw [lookup_ne (by simpa using h.1)]
    exact ih h.2
theorem ok_is_name (T : Txt K mg) : Has P w K mg base 1 "is_name" ["text"] nameS := by
  refine Has.of T.f_is_name sc_is_name (fun A Q R ⟨x, e, _⟩ => by rw [e]; rfl) fun f cdv A outer s0 H E hr Γ Q R ⟨x, e, hl, hq⟩ => ?_
  subst e
  refine st_retV (ev_eq (y := isName x) (ev_and2 (ev_chain o_le (fun _ => o_le) ev_int (ev_lenS T.b_len (ev_var 0) (sl_small (by omega))) (fun _ => ev_gintE T.c_MOST_LETTERS)) fun _ => ev_all T.b_all (ev_of_en (en_lc (α := Tx) (β := Bool) (own := [("sign", 1)]) (f := fun y => decide (y.headD 0 ∈ capTx)) (src_str (ev_var 0)) (tg_name 1) (fun _ _ _ _ _ => pgn 1 sc_is_name.nd)
    (fun y hy _ _ _ _ _ => ?_) sc_is_name.nd (ok := bk_is_name (by decide +kernel)) (hz := by rw [List.length_map]; exact sl_small (by omega))))) ?_) hq
  · obtain ⟨c, _, rfl⟩ := List.mem_map.mp hy
    exact ev_cmp o_inS (ev_var 1) (ev_gstrE T.c_CAPITALS)
  · unfold isName
    rw [List.map_map, List.all_map]
    congr 1
    congr 1
    · exact decide_eq_decide.mpr (by omega)
    · exact decide_eq_decide.mpr (by omega)
theorem ok_asked_name (T : Txt K mg) : Has P w K mg base 2 "asked_name" ["text"] askedS := by
  refine Has.ofX T.f_asked_name sc_asked_name (fun A Q R ⟨x, e, _⟩ => by rw [e]; rfl) fun f cdv A outer s0 H E hr Γ Q R ⟨x, e, hl, h1, h2⟩ => ?_
  subst e
  refine st_if (et_not (et_val (ev_call (x := isName x) (ok_is_name T) (hr.mono (by decide)) (ea_cons (ev_var 0) ea_nil) fun P R h => ⟨x, rfl, hl, h⟩))) (fun h => ?_) (fun h => st_nil ?_)
  · exact st_raise0 T.x_NoRule T.p_NoRule (h2 (by simpa using h))
  · exact st_retV (ev_var 0) (h1 (by simpa using h))
theorem ok_Rule_init (T : Txt K mg) : HasM P w K mg base 3 "Rule" "__init__" ["self", "name", "cost"] (ruleInitS K) := by
  refine HasM.ofI T.m_Rule_init sc_Rule_init (fun A Q R ⟨C, a, dx, n, c, e, _⟩ => by rw [e]; rfl) fun f cdv A outer s0 H E hr Γ Q R ⟨C, a, dx, n, c, e, hc, hn1, hn2, hl, h1, h2⟩ => ⟨ownI C a dx [], ?_⟩
  subst e
  refine st_if (et_or (et_cmp o_lt (ev_var 2) ev_int) fun _ => et_cmp o_gt (ev_var 2) (ev_gintE T.c_MOST_COST)) (fun h => ?_) (fun h => st_nil ?_)
  · have hb : costOk c = false := by
      unfold costOk
      simp only [Bool.or_eq_true, decide_eq_true_eq, Bool.and_eq_false_iff, decide_eq_false_iff_not] at h ⊢
      omega
    exact st_raise0 T.x_NoRule T.p_NoRule (h2 (by rw [hb]; rfl))
  have hb : costOk c = true := by
    unfold costOk
    simp only [Bool.or_eq_false_iff, decide_eq_false_iff_not, Bool.and_eq_true, decide_eq_true_eq] at h ⊢
    omega
  rw [hb, Bool.true_and] at h1 h2
  cases hn : isName n with
  | false =>
    exact st_setFR (R := fun y => y = NoRule) (exx_call (ok_asked_name T) (hr.mono (by decide)) (ea_cons (ev_var 1) ea_nil) fun P' R' _ h => ⟨n, rfl, hl, fun z => by (rw [hn] at z; cases z), fun _ => h _ rfl⟩) (fun x e => e ▸ h2 hn) 0
  | true =>
    refine st_setF 0 (fs := []) (ev_call (x := n) (ok_asked_name T) (hr.mono (by decide)) (ea_cons (ev_var 1) ea_nil) fun P' R' h => ⟨n, rfl, hl, fun _ => h, fun z => by rw [hn] at z; cases z⟩) ?_ hc hn1 rfl
    exact st_setF 0 (fs := [("name", vl n)]) (ev_var 2) (st_nil ⟨_, rfl, rfl, h1 hn⟩) hc hn2 (lk rfl)
theorem ok_CellRule_init (T : Txt K mg) : HasM P w K mg base 4 "CellRule" "__init__" ["self", "name", "cost", "sign"] (cellInitS K) := by
  refine HasM.ofI T.m_CellRule_init sc_CellRule_init (fun A Q R ⟨C, a, dx, n, c, s, e, _⟩ => by rw [e]; rfl) fun f cdv A outer s0 H E hr Γ Q R ⟨C, a, dx, n, c, s, e, hC, hl, hls, h1, h2⟩ => ⟨ownI C a dx [], ?_⟩
  subst e
  have hc := OC.cl T.o_CellRule hC
  have key : ∀ k : Bool, k = signOk s → ((k = true → (RuleD.cell n c s).good = (costOk c && isName n)) ∧ (k = false → (RuleD.cell n c s).good = false)) := fun k e => by
    subst e
    show (_ → (signOk s && (costOk c && isName n)) = _) ∧ (_ → (signOk s && (costOk c && isName n)) = _)
    exact ⟨fun h => by rw [h, Bool.true_and], fun h => by rw [h, Bool.false_and]⟩
  have hlen : EV (cxOf (L2.CX P w) P w K mg base N_CellRule_init "CellRule.__init__" (defScope s_CellRule_init) f cdv A outer s0 H E) [.own (ownI C a dx []), vl n, vl c, vl s] = EV (cxOf (L2.CX P w) P w K mg base N_CellRule_init "CellRule.__init__" (defScope s_CellRule_init) f cdv A outer s0 H E) [.own (ownI C a dx []), vl n, vl c, vl s] := rfl
  have rest : signOk s = true → Tw.ST (cxOf (L2.CX P w) P w K mg base N_CellRule_init "CellRule.__init__" (defScope s_CellRule_init) f cdv A outer s0 H E) ((defBody s_CellRule_init).drop 1) [.own (ownI C a dx []), vl n, vl c, vl s] (finI (ownI C a dx []) Q R) := fun hs => by
    have hg := (key _ rfl).1 hs
    cases hnc : (costOk c && isName n) with
    | false =>
      rw [hnc] at hg
      exact st_dropG (P := fun _ _ => False) (R := fun y Γ' => y = NoRule) (eg_cinit 0 (G := fun _ _ => False) T.o_Rule T.z_Rule (ok_Rule_init T) (hr.mono (by decide)) (eab_o 0 (eab_v (ev_var 1) (eab_v (ev_var 2) eab_nil))) rfl rfl (fun _ _ z => z.elim) (fun _ _ z => z.elim) fun P' R' _ h => ⟨C, a, dx, n, c, rfl, hc, T.a_CellRule_name C hC, T.a_CellRule_cost C hC, hl, fun z => by (rw [hnc] at z; cases z), fun _ => h _ rfl⟩) (fun _ _ z => z.elim) (fun y Γ' e => e ▸ h2 hg)
    | true =>
      rw [hnc] at hg
      refine st_dropG (P := fun _ Γ' => Γ' = _) (R := fun y Γ' => False) (eg_cinit 0 (G := fun _ o' => o' = ownI C a dx [("name", vl n), ("cost", vl c)]) T.o_Rule T.z_Rule (ok_Rule_init T) (hr.mono (by decide)) (eab_o 0 (eab_v (ev_var 1) (eab_v (ev_var 2) eab_nil))) rfl rfl (fun _ o' e => by (rw [e]; rfl)) (fun _ o' e => by rw [e]) fun P' R' h _ => ⟨C, a, dx, n, c, rfl, hc, T.a_CellRule_name C hC, T.a_CellRule_cost C hC, hl, fun _ => h () _ rfl, fun z => by rw [hnc] at z; cases z⟩) (fun _ Γ' e => e ▸ ?_) (fun y Γ' z => z.elim)
      exact st_setF 0 (fs := [("name", vl n), ("cost", vl c)]) (ev_var 3) (st_nil ⟨_, rfl, rfl, h1 hg⟩) hc (T.a_CellRule_sign C hC) (lk rfl)
  by_cases h1s : s.length = 1
  · obtain ⟨d, rfl⟩ : ∃ d, s = [d] := by
      match s, h1s with
      | [d], _ => exact ⟨d, rfl⟩
    refine st_if (et_or (et_cmp o_ne (ev_lenS T.b_len (ev_var 3) (sl_small (by simp))) ev_int) fun _ => et_cmp (o_notInS (c := d)) (ev_var 3) (ev_gstrE T.c_SMALL)) (fun h => ?_) (fun h => st_nil (rest ?_))
    · have h' : (!decide (d ∈ smallTx)) = true := h
      refine st_raise0 T.x_NoRule T.p_NoRule (h2 ((key _ rfl).2 ?_))
      show (true && (decide (d ∈ smallTx) && true)) = false
      generalize decide (d ∈ smallTx) = k at h' ⊢
      revert h'; cases k <;> decide
    · have h' : (!decide (d ∈ smallTx)) = false := h
      show (true && (decide (d ∈ smallTx) && true)) = true
      generalize decide (d ∈ smallTx) = k at h' ⊢
      revert h'; cases k <;> decide
  · refine st_if (k := true) (et_eq (et_or (m := false) (et_cmp o_ne (ev_lenS T.b_len (ev_var 3) (sl_small (by omega))) ev_int) fun h => absurd h ?_) ?_) (fun _ => st_raise0 T.x_NoRule T.p_NoRule (h2 ((key _ rfl).2 ?_))) (fun h => nomatch h)
    · simp; omega
    · simp; omega
    · unfold signOk
      rw [decide_eq_false h1s]; rfl
theorem ok_BesideRule_init (T : Txt K mg) : HasM P w K mg base 4 "BesideRule" "__init__" ["self", "name", "cost", "one", "other"] (besideInitS K) := by
  refine HasM.ofI T.m_BesideRule_init sc_BesideRule_init (fun A Q R ⟨C, a, dx, n, c, x, y, e, _⟩ => by rw [e]; rfl) fun f cdv A outer s0 H E hr Γ Q R ⟨C, a, dx, n, c, x, y, e, hC, hl, hlx, hly, h1, h2⟩ => ⟨ownI C a dx [], ?_⟩
  subst e
  have hc := OC.cl T.o_BesideRule hC
  cases hnc : (costOk c && isName n) with
  | false =>
    refine st_dropG (P := fun _ _ => False) (R := fun y Γ' => y = NoRule) (eg_cinit 0 (G := fun _ _ => False) T.o_Rule T.z_Rule (ok_Rule_init T) (hr.mono (by decide)) (eab_o 0 (eab_v (ev_var 1) (eab_v (ev_var 2) eab_nil))) rfl rfl (fun _ _ z => z.elim) (fun _ _ z => z.elim) fun P' R' _ h => ⟨C, a, dx, n, c, rfl, hc, T.a_BesideRule_name C hC, T.a_BesideRule_cost C hC, hl, fun z => by (rw [hnc] at z; cases z), fun _ => h _ rfl⟩) (fun _ _ z => z.elim) (fun y' Γ' e => e ▸ h2 ?_)
    show ((costOk c && isName n) && (isName x && isName y)) = false
    rw [hnc]; rfl
  | true =>
    refine st_dropG (P := fun _ Γ' => Γ' = _) (R := fun y Γ' => False) (eg_cinit 0 (G := fun _ o' => o' = ownI C a dx [("name", vl n), ("cost", vl c)]) T.o_Rule T.z_Rule (ok_Rule_init T) (hr.mono (by decide)) (eab_o 0 (eab_v (ev_var 1) (eab_v (ev_var 2) eab_nil))) rfl rfl (fun _ o' e => by (rw [e]; rfl)) (fun _ o' e => by rw [e]) fun P' R' h _ => ⟨C, a, dx, n, c, rfl, hc, T.a_BesideRule_name C hC, T.a_BesideRule_cost C hC, hl, fun _ => h () _ rfl, fun z => by rw [hnc] at z; cases z⟩) (fun _ Γ' e => e ▸ ?_) (fun y Γ' z => z.elim)
    cases hx : isName x with
    | false =>
      refine st_setFR (R := fun y => y = NoRule) (exx_call (ok_asked_name T) (hr.mono (by decide)) (ea_cons (ev_var 3) ea_nil) fun P' R' _ h => ⟨x, rfl, hlx, fun z => by (rw [hx] at z; cases z), fun _ => h _ rfl⟩) (fun y' e => e ▸ h2 ?_) 0
      show ((costOk c && isName n) && (isName x && isName y)) = false
      rw [hnc, hx]; rfl
    | true =>
      refine st_setF 0 (fs := [("name", vl n), ("cost", vl c)]) (ev_call (x := x) (ok_asked_name T) (hr.mono (by decide)) (ea_cons (ev_var 3) ea_nil) fun P' R' h => ⟨x, rfl, hlx, fun _ => h, fun z => by rw [hx] at z; cases z⟩) ?_ hc (T.a_BesideRule_one C hC) (lk rfl)
      cases hy : isName y with
      | false =>
        refine st_setFR (R := fun y => y = NoRule) (exx_call (ok_asked_name T) (hr.mono (by decide)) (ea_cons (ev_var 4) ea_nil) fun P' R' _ h => ⟨y, rfl, hly, fun z => by (rw [hy] at z; cases z), fun _ => h _ rfl⟩) (fun y' e => e ▸ h2 ?_) 0
        show ((costOk c && isName n) && (isName x && isName y)) = false
        rw [hnc, hx, hy]; rfl
      | true =>
        refine st_setF 0 (fs := [("name", vl n), ("cost", vl c), ("one", vl x)]) (ev_call (x := y) (ok_asked_name T) (hr.mono (by decide)) (ea_cons (ev_var 4) ea_nil) fun P' R' h => ⟨y, rfl, hly, fun _ => h, fun z => by rw [hy] at z; cases z⟩) (st_nil ⟨_, rfl, rfl, h1 ?_⟩) hc (T.a_BesideRule_other C hC) (lk rfl)
        show ((costOk c && isName n) && (isName x && isName y)) = true
        rw [hnc, hx, hy]; rfl
theorem ok_AboveRule_init (T : Txt K mg) : HasM P w K mg base 4 "AboveRule" "__init__" ["self", "name", "cost", "one", "other"] (aboveInitS K) := by
  refine HasM.ofI T.m_AboveRule_init sc_AboveRule_init (fun A Q R ⟨C, a, dx, n, c, x, y, e, _⟩ => by rw [e]; rfl) fun f cdv A outer s0 H E hr Γ Q R ⟨C, a, dx, n, c, x, y, e, hC, hl, hlx, hly, h1, h2⟩ => ⟨ownI C a dx [], ?_⟩
  subst e
  have hc := OC.cl T.o_AboveRule hC
  cases hnc : (costOk c && isName n) with
  | false =>
    refine st_dropG (P := fun _ _ => False) (R := fun y Γ' => y = NoRule) (eg_cinit 0 (G := fun _ _ => False) T.o_Rule T.z_Rule (ok_Rule_init T) (hr.mono (by decide)) (eab_o 0 (eab_v (ev_var 1) (eab_v (ev_var 2) eab_nil))) rfl rfl (fun _ _ z => z.elim) (fun _ _ z => z.elim) fun P' R' _ h => ⟨C, a, dx, n, c, rfl, hc, T.a_AboveRule_name C hC, T.a_AboveRule_cost C hC, hl, fun z => by (rw [hnc] at z; cases z), fun _ => h _ rfl⟩) (fun _ _ z => z.elim) (fun y' Γ' e => e ▸ h2 ?_)
    show ((costOk c && isName n) && (isName x && isName y)) = false
    rw [hnc]; rfl
  | true =>
    refine st_dropG (P := fun _ Γ' => Γ' = _) (R := fun y Γ' => False) (eg_cinit 0 (G := fun _ o' => o' = ownI C a dx [("name", vl n), ("cost", vl c)]) T.o_Rule T.z_Rule (ok_Rule_init T) (hr.mono (by decide)) (eab_o 0 (eab_v (ev_var 1) (eab_v (ev_var 2) eab_nil))) rfl rfl (fun _ o' e => by (rw [e]; rfl)) (fun _ o' e => by rw [e]) fun P' R' h _ => ⟨C, a, dx, n, c, rfl, hc, T.a_AboveRule_name C hC, T.a_AboveRule_cost C hC, hl, fun _ => h () _ rfl, fun z => by rw [hnc] at z; cases z⟩) (fun _ Γ' e => e ▸ ?_) (fun y Γ' z => z.elim)
    cases hx : isName x with
    | false =>
      refine st_setFR (R := fun y => y = NoRule) (exx_call (ok_asked_name T) (hr.mono (by decide)) (ea_cons (ev_var 3) ea_nil) fun P' R' _ h => ⟨x, rfl, hlx, fun z => by (rw [hx] at z; cases z), fun _ => h _ rfl⟩) (fun y' e => e ▸ h2 ?_) 0
      show ((costOk c && isName n) && (isName x && isName y)) = false
      rw [hnc, hx]; rfl
    | true =>
      refine st_setF 0 (fs := [("name", vl n), ("cost", vl c)]) (ev_call (x := x) (ok_asked_name T) (hr.mono (by decide)) (ea_cons (ev_var 3) ea_nil) fun P' R' h => ⟨x, rfl, hlx, fun _ => h, fun z => by rw [hx] at z; cases z⟩) ?_ hc (T.a_AboveRule_one C hC) (lk rfl)
      cases hy : isName y with
      | false =>
        refine st_setFR (R := fun y => y = NoRule) (exx_call (ok_asked_name T) (hr.mono (by decide)) (ea_cons (ev_var 4) ea_nil) fun P' R' _ h => ⟨y, rfl, hly, fun z => by (rw [hy] at z; cases z), fun _ => h _ rfl⟩) (fun y' e => e ▸ h2 ?_) 0
        show ((costOk c && isName n) && (isName x && isName y)) = false
        rw [hnc, hx, hy]; rfl
      | true =>
        refine st_setF 0 (fs := [("name", vl n), ("cost", vl c), ("one", vl x)]) (ev_call (x := y) (ok_asked_name T) (hr.mono (by decide)) (ea_cons (ev_var 4) ea_nil) fun P' R' h => ⟨y, rfl, hly, fun _ => h, fun z => by rw [hy] at z; cases z⟩) (st_nil ⟨_, rfl, rfl, h1 ?_⟩) hc (T.a_AboveRule_other C hC) (lk rfl)
        show ((costOk c && isName n) && (isName x && isName y)) = true
        rw [hnc, hx, hy]; rfl
theorem ok_TurnRule_init (T : Txt K mg) : HasM P w K mg base 4 "TurnRule" "__init__" ["self", "name", "cost", "part", "turning"] (turnInitS K) := by
  refine HasM.ofI T.m_TurnRule_init sc_TurnRule_init (fun A Q R ⟨C, a, dx, n, c, x, t, e, _⟩ => by rw [e]; rfl) fun f cdv A outer s0 H E hr Γ Q R ⟨C, a, dx, n, c, x, t, e, hC, hl, hlx, h1, h2⟩ => ⟨ownI C a dx [], ?_⟩
  subst e
  have hc := OC.cl T.o_TurnRule hC
  have good : (RuleD.turn n c x t).good = ((decide (0 ≤ t) && decide (t ≤ 7)) && ((costOk c && isName n) && isName x)) := rfl
  rw [good] at h1 h2
  refine st_if (et_or (et_cmp o_lt (ev_var 4) ev_int) fun _ => et_cmp o_gt (ev_var 4) ev_int) (fun h => ?_) (fun h => st_nil ?_)
  · refine st_raise0 T.x_NoRule T.p_NoRule (h2 ?_)
    have : (decide (0 ≤ t) && decide (t ≤ 7)) = false := by
      simp only [Bool.or_eq_true, decide_eq_true_eq, Bool.and_eq_false_iff, decide_eq_false_iff_not] at h ⊢
      omega
    rw [this]; rfl
  have ht : (decide (0 ≤ t) && decide (t ≤ 7)) = true := by
    simp only [Bool.or_eq_false_iff, decide_eq_false_iff_not, Bool.and_eq_true, decide_eq_true_eq] at h ⊢
    omega
  rw [ht, Bool.true_and] at h1 h2
  cases hnc : (costOk c && isName n) with
  | false =>
    exact st_dropG (P := fun _ _ => False) (R := fun y Γ' => y = NoRule) (eg_cinit 0 (G := fun _ _ => False) T.o_Rule T.z_Rule (ok_Rule_init T) (hr.mono (by decide)) (eab_o 0 (eab_v (ev_var 1) (eab_v (ev_var 2) eab_nil))) rfl rfl (fun _ _ z => z.elim) (fun _ _ z => z.elim) fun P' R' _ h => ⟨C, a, dx, n, c, rfl, hc, T.a_TurnRule_name C hC, T.a_TurnRule_cost C hC, hl, fun z => by (rw [hnc] at z; cases z), fun _ => h _ rfl⟩) (fun _ _ z => z.elim) (fun y Γ' e => e ▸ h2 (by rw [hnc]; rfl))
  | true =>
    rw [hnc, Bool.true_and] at h1 h2
    refine st_dropG (P := fun _ Γ' => Γ' = _) (R := fun y Γ' => False) (eg_cinit 0 (G := fun _ o' => o' = ownI C a dx [("name", vl n), ("cost", vl c)]) T.o_Rule T.z_Rule (ok_Rule_init T) (hr.mono (by decide)) (eab_o 0 (eab_v (ev_var 1) (eab_v (ev_var 2) eab_nil))) rfl rfl (fun _ o' e => by (rw [e]; rfl)) (fun _ o' e => by rw [e]) fun P' R' h _ => ⟨C, a, dx, n, c, rfl, hc, T.a_TurnRule_name C hC, T.a_TurnRule_cost C hC, hl, fun _ => h () _ rfl, fun z => by rw [hnc] at z; cases z⟩) (fun _ Γ' e => e ▸ ?_) (fun y Γ' z => z.elim)
    cases hx : isName x with
    | false => exact st_setFR (R := fun y => y = NoRule) (exx_call (ok_asked_name T) (hr.mono (by decide)) (ea_cons (ev_var 3) ea_nil) fun P' R' _ h => ⟨x, rfl, hlx, fun z => by (rw [hx] at z; cases z), fun _ => h _ rfl⟩) (fun y' e => e ▸ h2 hx) 0
    | true =>
      refine st_setF 0 (fs := [("name", vl n), ("cost", vl c)]) (ev_call (x := x) (ok_asked_name T) (hr.mono (by decide)) (ea_cons (ev_var 3) ea_nil) fun P' R' h => ⟨x, rfl, hlx, fun _ => h, fun z => by rw [hx] at z; cases z⟩) ?_ hc (T.a_TurnRule_part C hC) (lk rfl)
      exact st_setF 0 (fs := [("name", vl n), ("cost", vl c), ("part", vl x)]) (ev_var 4) (st_nil ⟨_, rfl, rfl, h1 hx⟩) hc (T.a_TurnRule_turning C hC) (lk rfl)
end
theorem RuleD.f_name (r : RuleD) : r.flds.lookup ("name" : Str) = some (vl r.name) := by cases r <;> rfl
theorem RuleD.f_cost (r : RuleD) : r.flds.lookup ("cost" : Str) = some (vl r.cost) := by cases r <;> rfl
theorem costOk_of {c : Int} (h : costOk c = true) : 1 ≤ c ∧ c ≤ 9 := by
  unfold costOk at h
  simpa using h
theorem signOk_of {s : Tx} (h : signOk s = true) : s.length = 1 := by
  unfold signOk at h
  rw [Bool.and_eq_true, decide_eq_true_eq] at h
  exact h.1
theorem RuleD.good_of {r : RuleD} (h : r.good = true) : isName r.name = true ∧ costOk r.cost = true := by
  cases r <;> simp only [RuleD.good, Bool.and_eq_true] at h <;> simp_all [RuleD.name, RuleD.cost]
theorem RuleD.bounds {r : RuleD} (h : r.good = true) : r.name.length ≤ 4 ∧ 1 ≤ r.cost ∧ r.cost ≤ 9 := by
  obtain ⟨h1, h2⟩ := RuleD.good_of h
  have := costOk_of h2
  exact ⟨isName_len h1, this⟩
section
variable {K : PySem.W.Frag} {mg : Str → Option Value}
theorem o_cls (T : Txt K mg) (r : RuleD) : OC K mg r.cls := by
  cases r
  · exact T.o_CellRule
  · exact T.o_BesideRule
  · exact T.o_AboveRule
  · exact T.o_TurnRule
theorem a_name (T : Txt K mg) (r : RuleD) : NoA K r.cls "name" := by
  cases r
  · exact T.a_CellRule_name
  · exact T.a_BesideRule_name
  · exact T.a_AboveRule_name
  · exact T.a_TurnRule_name
theorem a_cost (T : Txt K mg) (r : RuleD) : NoA K r.cls "cost" := by
  cases r
  · exact T.a_CellRule_cost
  · exact T.a_BesideRule_cost
  · exact T.a_AboveRule_cost
  · exact T.a_TurnRule_cost
end
noncomputable def RuleD.short : RuleD → Prop
  | .cell n _ s => n.length ≤ 1000 ∧ s.length ≤ 1000
  | .beside n _ a b => n.length ≤ 1000 ∧ a.length ≤ 1000 ∧ b.length ≤ 1000
  | .above n _ a b => n.length ≤ 1000 ∧ a.length ≤ 1000 ∧ b.length ≤ 1000
  | .turn n _ a _ => n.length ≤ 1000 ∧ a.length ≤ 1000
theorem RuleD.good_short {r : RuleD} (h : r.good = true) : r.short := by
  cases r <;> simp only [RuleD.good, Bool.and_eq_true] at h
  · have := isName_len h.2.2; have := signOk_of h.1; exact ⟨by omega, by omega⟩
  · have := isName_len h.1.2; have := isName_len h.2.1; have := isName_len h.2.2; exact ⟨by omega, by omega, by omega⟩
  · have := isName_len h.1.2; have := isName_len h.2.1; have := isName_len h.2.2; exact ⟨by omega, by omega, by omega⟩
  · have := isName_len h.2.1.2; have := isName_len h.2.2; exact ⟨by omega, by omega⟩
section
variable {X : Cx} {Γ : List Slot} {pos p : Pos} {e : Expr} {es : List Expr} {k : Nat} {n s x y : Tx} {c t : Int}
theorem mkx_cell (T : Txt X.K X.mg) (hr : Room k X.A) (ha : EA X Γ (e :: es) [vl n, vl c, vl s]) (h1 : n.length ≤ 1000) (h2 : s.length ≤ 1000) (hk : autoParam (5 ≤ k) Tw.aDec) (hg : autoParam (Gl X "CellRule") Tw.aRfl) (he : autoParam (starEach (e :: es) X.env = (false, eval e X.env) :: starEach es X.env) Tw.aStar) (hpl : autoParam ((backTo pos (starEach es X.env)).any (·.1) = false) Tw.aPl) :
    EXX X Γ (.Call (.Name "CellRule" p) (e :: es) [] pos) (fun r => r = rv (RuleD.cell n c s) ∧ (RuleD.cell n c s).good = true) (fun y => y = NoRule ∧ (RuleD.cell n c s).good = false) := by
  cases hgd : (RuleD.cell n c s).good with
  | true => exact exx_imp (R := fun _ => False) (exx_makeV (x := RuleD.cell n c s) T.o_CellRule (ok_CellRule_init T) (hr.mono hk) rfl ha (fun C hC ad dx P' R' h _ => ⟨C, ad, dx, n, c, s, rfl, hC, h1, h2, fun _ => h, fun z => by rw [hgd] at z; cases z⟩) hg (by decide) he hpl) (fun r e => ⟨e, rfl⟩) fun _ z => z.elim
  | false => exact exx_imp (P := fun _ => False) (R := fun y => y = NoRule) (exx_make (fs := []) T.o_CellRule (ok_CellRule_init T) (hr.mono hk) ha (fun C hC ad dx P' R' _ h => ⟨C, ad, dx, n, c, s, rfl, hC, h1, h2, fun z => by (rw [hgd] at z; cases z), fun _ => h _ rfl⟩) hg (by decide) he hpl) (fun _ z => z.elim) fun y e => ⟨e, rfl⟩
theorem mkx_beside (T : Txt X.K X.mg) (hr : Room k X.A) (ha : EA X Γ (e :: es) [vl n, vl c, vl x, vl y]) (h1 : n.length ≤ 1000) (h2 : x.length ≤ 1000) (h3 : y.length ≤ 1000) (hk : autoParam (5 ≤ k) Tw.aDec) (hg : autoParam (Gl X "BesideRule") Tw.aRfl) (he : autoParam (starEach (e :: es) X.env = (false, eval e X.env) :: starEach es X.env) Tw.aStar) (hpl : autoParam ((backTo pos (starEach es X.env)).any (·.1) = false) Tw.aPl) :
    EXX X Γ (.Call (.Name "BesideRule" p) (e :: es) [] pos) (fun r => r = rv (RuleD.beside n c x y) ∧ (RuleD.beside n c x y).good = true) (fun z => z = NoRule ∧ (RuleD.beside n c x y).good = false) := by
  cases hgd : (RuleD.beside n c x y).good with
  | true => exact exx_imp (R := fun _ => False) (exx_makeV (x := RuleD.beside n c x y) T.o_BesideRule (ok_BesideRule_init T) (hr.mono hk) rfl ha (fun C hC ad dx P' R' h _ => ⟨C, ad, dx, n, c, x, y, rfl, hC, h1, h2, h3, fun _ => h, fun z => by rw [hgd] at z; cases z⟩) hg (by decide) he hpl) (fun r e => ⟨e, rfl⟩) fun _ z => z.elim
  | false => exact exx_imp (P := fun _ => False) (R := fun y => y = NoRule) (exx_make (fs := []) T.o_BesideRule (ok_BesideRule_init T) (hr.mono hk) ha (fun C hC ad dx P' R' _ h => ⟨C, ad, dx, n, c, x, y, rfl, hC, h1, h2, h3, fun z => by (rw [hgd] at z; cases z), fun _ => h _ rfl⟩) hg (by decide) he hpl) (fun _ z => z.elim) fun y e => ⟨e, rfl⟩
theorem mkx_above (T : Txt X.K X.mg) (hr : Room k X.A) (ha : EA X Γ (e :: es) [vl n, vl c, vl x, vl y]) (h1 : n.length ≤ 1000) (h2 : x.length ≤ 1000) (h3 : y.length ≤ 1000) (hk : autoParam (5 ≤ k) Tw.aDec) (hg : autoParam (Gl X "AboveRule") Tw.aRfl) (he : autoParam (starEach (e :: es) X.env = (false, eval e X.env) :: starEach es X.env) Tw.aStar) (hpl : autoParam ((backTo pos (starEach es X.env)).any (·.1) = false) Tw.aPl) :
    EXX X Γ (.Call (.Name "AboveRule" p) (e :: es) [] pos) (fun r => r = rv (RuleD.above n c x y) ∧ (RuleD.above n c x y).good = true) (fun z => z = NoRule ∧ (RuleD.above n c x y).good = false) := by
  cases hgd : (RuleD.above n c x y).good with
  | true => exact exx_imp (R := fun _ => False) (exx_makeV (x := RuleD.above n c x y) T.o_AboveRule (ok_AboveRule_init T) (hr.mono hk) rfl ha (fun C hC ad dx P' R' h _ => ⟨C, ad, dx, n, c, x, y, rfl, hC, h1, h2, h3, fun _ => h, fun z => by rw [hgd] at z; cases z⟩) hg (by decide) he hpl) (fun r e => ⟨e, rfl⟩) fun _ z => z.elim
  | false => exact exx_imp (P := fun _ => False) (R := fun y => y = NoRule) (exx_make (fs := []) T.o_AboveRule (ok_AboveRule_init T) (hr.mono hk) ha (fun C hC ad dx P' R' _ h => ⟨C, ad, dx, n, c, x, y, rfl, hC, h1, h2, h3, fun z => by (rw [hgd] at z; cases z), fun _ => h _ rfl⟩) hg (by decide) he hpl) (fun _ z => z.elim) fun y e => ⟨e, rfl⟩
theorem mkx_turn (T : Txt X.K X.mg) (hr : Room k X.A) (ha : EA X Γ (e :: es) [vl n, vl c, vl x, vl t]) (h1 : n.length ≤ 1000) (h2 : x.length ≤ 1000) (hk : autoParam (5 ≤ k) Tw.aDec) (hg : autoParam (Gl X "TurnRule") Tw.aRfl) (he : autoParam (starEach (e :: es) X.env = (false, eval e X.env) :: starEach es X.env) Tw.aStar) (hpl : autoParam ((backTo pos (starEach es X.env)).any (·.1) = false) Tw.aPl) :
    EXX X Γ (.Call (.Name "TurnRule" p) (e :: es) [] pos) (fun r => r = rv (RuleD.turn n c x t) ∧ (RuleD.turn n c x t).good = true) (fun z => z = NoRule ∧ (RuleD.turn n c x t).good = false) := by
  cases hgd : (RuleD.turn n c x t).good with
  | true => exact exx_imp (R := fun _ => False) (exx_makeV (x := RuleD.turn n c x t) T.o_TurnRule (ok_TurnRule_init T) (hr.mono hk) rfl ha (fun C hC ad dx P' R' h _ => ⟨C, ad, dx, n, c, x, t, rfl, hC, h1, h2, fun _ => h, fun z => by rw [hgd] at z; cases z⟩) hg (by decide) he hpl) (fun r e => ⟨e, rfl⟩) fun _ z => z.elim
  | false => exact exx_imp (P := fun _ => False) (R := fun y => y = NoRule) (exx_make (fs := []) T.o_TurnRule (ok_TurnRule_init T) (hr.mono hk) ha (fun C hC ad dx P' R' _ h => ⟨C, ad, dx, n, c, x, t, rfl, hC, h1, h2, fun z => by (rw [hgd] at z; cases z), fun _ => h _ rfl⟩) hg (by decide) he hpl) (fun _ z => z.elim) fun y e => ⟨e, rfl⟩
theorem ev_good {e : Expr} {r : RuleD} (h : EXX X Γ e (fun q => q = rv r ∧ r.good = true) (fun y => y = NoRule ∧ r.good = false)) (hg : r.good = true) : EV X Γ e r :=
  ev_of_ex (ex_of_exx (exx_imp h (fun _ z => z.1) fun _ z => by rw [hg] at z; cases z.2))
end
noncomputable def partsS (n : Str) : Tw.Spec := fun A P _ => ∃ (r : RuleD), A = [vl r] ∧ r.cls = n ∧ P (rn r.parts)
section
variable {P : Program} {w : World} {K : PySem.W.Frag} {mg : Str → Option Value} {base : Heap}
theorem ok_CellRule_parts (T : Txt K mg) : HasM P w K mg base 1 "CellRule" "parts" ["self"] (partsS "CellRule") := by
  refine HasM.of T.m_CellRule_parts sc_Rule_parts (fun A Q R ⟨r, e, _⟩ => by rw [e]; rfl) fun f cdv A outer s0 H E hr Γ Q R ⟨r, e, hcl, hq⟩ => ?_
  subst e
  cases r <;> first | exact st_retE (en_lst es_nil) hq | exact absurd hcl (of_decide_eq_false rfl)
theorem ok_BesideRule_parts (T : Txt K mg) : HasM P w K mg base 1 "BesideRule" "parts" ["self"] (partsS "BesideRule") := by
  refine HasM.of T.m_BesideRule_parts sc_BesideRule_parts (fun A Q R ⟨r, e, _⟩ => by rw [e]; rfl) fun f cdv A outer s0 H E hr Γ Q R ⟨r, e, hcl, hq⟩ => ?_
  subst e
  cases r with
  | beside n c x y => exact st_retE (en_lst (es_cons (ev_fld T.o_BesideRule T.a_BesideRule_one hcl rfl (ev_var 0)) (es_cons (ev_fld T.o_BesideRule T.a_BesideRule_other hcl rfl (ev_var 0)) es_nil))) hq
  | _ => exact absurd hcl (of_decide_eq_false rfl)
theorem ok_AboveRule_parts (T : Txt K mg) : HasM P w K mg base 1 "AboveRule" "parts" ["self"] (partsS "AboveRule") := by
  refine HasM.of T.m_AboveRule_parts sc_AboveRule_parts (fun A Q R ⟨r, e, _⟩ => by rw [e]; rfl) fun f cdv A outer s0 H E hr Γ Q R ⟨r, e, hcl, hq⟩ => ?_
  subst e
  cases r with
  | above n c x y => exact st_retE (en_lst (es_cons (ev_fld T.o_AboveRule T.a_AboveRule_one hcl rfl (ev_var 0)) (es_cons (ev_fld T.o_AboveRule T.a_AboveRule_other hcl rfl (ev_var 0)) es_nil))) hq
  | _ => exact absurd hcl (of_decide_eq_false rfl)
theorem ok_TurnRule_parts (T : Txt K mg) : HasM P w K mg base 1 "TurnRule" "parts" ["self"] (partsS "TurnRule") := by
  refine HasM.of T.m_TurnRule_parts sc_TurnRule_parts (fun A Q R ⟨r, e, _⟩ => by rw [e]; rfl) fun f cdv A outer s0 H E hr Γ Q R ⟨r, e, hcl, hq⟩ => ?_
  subst e
  cases r with
  | turn n c x t => exact st_retE (en_lst (es_cons (ev_fld T.o_TurnRule T.a_TurnRule_part hcl rfl (ev_var 0)) es_nil)) hq
  | _ => exact absurd hcl (of_decide_eq_false rfl)
theorem RuleD.f_parts (r : RuleD) : r.flds.lookup ("parts" : Str) = none := by cases r <;> exact lk rfl
theorem ok_parts (T : Txt K mg) (r : RuleD) : HasM P w K mg base 1 r.cls "parts" ["self"] (partsS r.cls) := by
  cases r
  · exact ok_CellRule_parts T
  · exact ok_BesideRule_parts T
  · exact ok_AboveRule_parts T
  · exact ok_TurnRule_parts T
end
theorem cut_to {A : Type} {xs : List A} {n : Nat} : cutL xs none (some (n : Int)) = xs.take n := by
  unfold cutL
  rw [HT.sIx_nat]
  show (xs.drop 0).take _ = _
  rw [List.drop_zero]
  show xs.take (min n xs.length - 0) = _
  rw [Nat.sub_zero]
  by_cases h : n ≤ xs.length
  · rw [Nat.min_eq_left h]
  · rw [Nat.min_eq_right (by omega), List.take_of_length_le (Nat.le_refl _), List.take_of_length_le (by omega)]
theorem cut_from {A : Type} {xs : List A} {n : Nat} : cutL xs (some (n : Int)) none = xs.drop n := by
  unfold cutL
  rw [HT.sIx_nat]
  show (xs.drop (min n xs.length)).take (xs.length - min n xs.length) = _
  by_cases h : n ≤ xs.length
  · rw [Nat.min_eq_left h, List.take_of_length_le (by rw [List.length_drop]; exact Nat.le_refl _)]
  · rw [Nat.min_eq_right (by omega), List.drop_of_length_le (Nat.le_refl _), List.drop_of_length_le (by omega), List.take_nil]
noncomputable abbrev Pic := List Tx
structure Pk (p : Pic) (r c : Nat) : Prop where
  len : p.length = r
  row : ∀ x ∈ p, x.length = c
  r0 : 0 < r
  c0 : 0 < c
  r6 : r ≤ 6
  c6 : c ≤ 6
theorem Pk.hd {p : Pic} {r c : Nat} (h : Pk p r c) : ∃ x q, p = x :: q ∧ x.length = c := by
  cases p with
  | nil => have := h.len; have := h.r0; simp at *; omega
  | cons x q => exact ⟨x, q, rfl, h.row x (List.mem_cons_self ..)⟩
theorem Pk.head {p : Pic} {r c : Nat} (h : Pk p r c) : atI p 0 = some (p.headD []) ∧ (p.headD []).length = c := by
  obtain ⟨x, q, rfl, e⟩ := h.hd
  exact ⟨atI_nat (j := 0) rfl, e⟩
noncomputable def quarter (p : Pic) : Pic := (List.range (p.headD []).length).map fun j => p.reverse.map fun row => row.getD j 0
noncomputable def mirrored (p : Pic) : Pic := p.map List.reverse
noncomputable def quarters : Nat → Pic → Pic
  | 0, p => p
  | n + 1, p => quarter (quarters n p)
noncomputable def turned (p : Pic) (t : Nat) : Pic := quarters (t % 4) (if 4 ≤ t then mirrored p else p)
theorem Pk.quarter {p : Pic} {r c : Nat} (h : Pk p r c) : Pk (quarter p) c r := by
  have hl := h.head.2
  refine ⟨by unfold Law.quarter; rw [List.length_map, List.length_range, hl], fun x hx => ?_, h.c0, h.r0, h.c6, h.r6⟩
  unfold Law.quarter at hx
  obtain ⟨j, _, rfl⟩ := List.mem_map.mp hx
  rw [List.length_map, List.length_reverse, h.len]
theorem Pk.mirrored {p : Pic} {r c : Nat} (h : Pk p r c) : Pk (mirrored p) r c := by
  refine ⟨by unfold Law.mirrored; rw [List.length_map, h.len], fun x hx => ?_, h.r0, h.c0, h.r6, h.c6⟩
  unfold Law.mirrored at hx
  obtain ⟨y, hy, rfl⟩ := List.mem_map.mp hx
  rw [List.length_reverse, h.row y hy]
theorem Pk.quarters {p : Pic} {r c : Nat} (h : Pk p r c) : ∀ n, Pk (quarters n p) (if n % 2 = 0 then r else c) (if n % 2 = 0 then c else r)
  | 0 => h
  | n + 1 => by
    have ih := (Pk.quarters h n).quarter
    by_cases e : n % 2 = 0
    · rw [if_pos e, if_pos e] at ih
      rw [if_neg (by omega), if_neg (by omega)]
      exact ih
    · rw [if_neg e, if_neg e] at ih
      rw [if_pos (by omega), if_pos (by omega)]
      exact ih
theorem Pk.turned {p : Pic} {r c : Nat} (h : Pk p r c) (t : Nat) : Pk (turned p t) (if t % 2 = 0 then r else c) (if t % 2 = 0 then c else r) := by
  unfold Law.turned
  have e : (t % 4) % 2 = t % 2 := by omega
  split
  · have := h.mirrored.quarters (t % 4)
    rwa [e] at this
  · have := h.quarters (t % 4)
    rwa [e] at this
noncomputable def quarterS : Tw.Spec := fun A P _ => ∃ (p : Pic) (r c : Nat), A = [vl p] ∧ Pk p r c ∧ P (rn (quarter p))
noncomputable def mirroredS : Tw.Spec := fun A P _ => ∃ (p : Pic) (r c : Nat), A = [vl p] ∧ Pk p r c ∧ P (rn (mirrored p))
noncomputable def turnedS : Tw.Spec := fun A P _ => ∃ (p : Pic) (r c : Nat) (t : Int), A = [vl p, vl t] ∧ Pk p r c ∧ 0 ≤ t ∧ P (rn (turned p t.toNat))
theorem sl6 {n : Nat} (h : n ≤ 6) : n ≤ sizeLine := Nat.le_trans h (by decide)
noncomputable def PicOk (p : Pic) : Prop := ∀ x ∈ p, TxOk x
section
variable {P : Program} {w : World} {K : PySem.W.Frag} {mg : Str → Option Value} {base : Heap}
theorem ok_quarter (T : Txt K mg) : Has P w K mg base 1 "quarter" ["picture"] quarterS := by
  refine Has.of T.f_quarter sc_quarter (fun A Q R ⟨p, r, c, e, _⟩ => by rw [e]; rfl) fun f cdv A outer s H E hr Γ Q R ⟨p, r, c, e, hp, hq⟩ => ?_
  subst e
  obtain ⟨h0, h1⟩ := hp.head
  have hc6 := hp.c6
  have hr6 := hp.r6
  -- rows = []
  refine st_setN 1 (en_nil Tx) (fun ad => ?_) sc_quarter.nd
  -- for column in range(len(picture[0])):
  refine st_for (xs := rng 0 ((p.headD []).length : Int).toNat) (fun k Γ => Le Γ [vl p, ls ad ((quarter p).take k), .no, .no]) (src_range T.b_range (ev_lenS T.b_len (ev_ixL (ev_var 0) ev_int h0) (sl6 (by rw [h1]; exact hp.c6))) (by omega) (by rw [h1]; omega)) (tg_name 2) Le.refl
    (fun k x Γ' hk hP => ?_) (fun Γ' hP => ?_) (pgn 2 sc_quarter.nd)
  · obtain ⟨hlt, rfl⟩ := rng_get0 hk
    refine st_le (Le.set hP 2 _) ?_
    have hkc : k < (p.headD []).length := by simpa using hlt
    have hk6 : k < 6 := by omega
    refine st_append 1 (ev_join (ev_str "") (ev_of_en (en_lc (α := Tx) (β := Tx) (own := [("row", 3)]) (f := fun row => [row.getD k 0]) (src_rev T.b_reversed (ev_var 0)) (tg_name 3) (fun _ _ _ _ _ => pgn 3 sc_quarter.nd)
      (fun x hx _ _ _ _ _ => ev_ixS (ev_var 3) (ev_var 2) ?_ ?_) sc_quarter.nd (ok := bk_quarter (by decide +kernel)) (hz := ?_))) ?_) (st_nil ?_) ?_
    · have := hp.row x (by simpa using hx)
      rw [List.getD_eq_getElem?_getD, List.getElem?_eq_getElem (by omega)]
      exact atI_nat (List.getElem?_eq_getElem (by omega))
    · rw [hp.row x (by simpa using hx)]; exact sl6 hp.c6
    · rw [List.length_reverse, hp.len]; exact sl6 hp.r6
    · show _ + _ * 0 ≤ _
      rw [sum_ones, List.length_reverse, hp.len]
      omega
    · have e1 : (quarter p)[k]? = some (p.reverse.map fun row => row.getD k 0) := by
        unfold quarter
        rw [List.getElem?_map, List.getElem?_range hkc]; rfl
      show Le _ _
      rw [take_snoc e1, ← joinOnes]
      exact le_cons (le_cons (le_no (le_no le_nil)))
    · rw [List.length_take]
      exact lt_line (by omega)
  · refine st_le hP (st_retL 1 ?_)
    rw [rng_len, List.take_of_length_le (by unfold quarter; rw [List.length_map, List.length_range]; omega)]
    exact hq
theorem ok_mirrored (T : Txt K mg) : Has P w K mg base 1 "mirrored" ["picture"] mirroredS := by
  refine Has.of T.f_mirrored sc_mirrored (fun A Q R ⟨p, r, c, e, _⟩ => by rw [e]; rfl) fun f cdv A outer s H E hr Γ Q R ⟨p, r, c, e, hp, hq⟩ => ?_
  subst e
  have hc6 := hp.c6
  have hr6 := hp.r6
  refine st_retE (en_lc (α := Tx) (β := Tx) (own := [("row", 1)]) (f := List.reverse) (src_list (ev_var 0)) (tg_name 1) (fun _ _ _ _ _ => pgn 1 sc_mirrored.nd)
    (fun x hx _ _ _ _ _ => ev_joinRev T.b_reversed (ev_str "") (ev_var 1) ?_) sc_mirrored.nd (ok := bk_mirrored (by decide +kernel)) (hz := ?_)) hq
  · rw [hp.row x hx]; omega
  · rw [hp.len]; exact sl6 hr6
theorem ok_turned (T : Txt K mg) : Has P w K mg base 2 "turned" ["picture", "t"] turnedS := by
  refine Has.of T.f_turned sc_turned (fun A Q R ⟨p, r, c, t, e, _⟩ => by rw [e]; rfl) fun f cdv A outer s H E hr Γ Q R ⟨p, r, c, t, e, hp, ht, hq⟩ => ?_
  subst e
  have hc6 := hp.c6
  have hr6 := hp.r6
  -- seen = list(picture)
  refine st_setN 2 (en_list T.b_list (ev_var 0)) (fun a0 => ?_) sc_turned.nd
  -- if t >= MIRROR:
  have go : ∀ (q : Pic) (a1 : Addr), q = (if 4 ≤ t.toNat then mirrored p else p) → Tw.ST (cxOf (L2.CX P w) P w K mg base N_turned "turned" (defScope s_turned) f cdv A outer s H E).nox ((defBody s_turned).drop 2) [vl p, vl t, ls a1 q, .no] (fin Q) := by
    intro q a1 eq
    obtain ⟨r', c', hq'⟩ : ∃ r' c', Pk q r' c' := by
      rw [eq]; split
      · exact ⟨_, _, hp.mirrored⟩
      · exact ⟨_, _, hp⟩
    -- for turn in range(t % MIRROR):
    refine st_for (xs := rng 0 (t % 4).toNat) (fun k Γ => ∃ ad, Le Γ [vl p, vl t, ls ad (quarters k q), .no]) (src_range T.b_range (ev_bin (o_mod (by decide)) (ev_var 1) (ev_gintE T.c_MIRROR)) (by omega) (by omega)) (tg_name 3) ⟨a1, Le.refl⟩
      (fun k x Γ' hk hP => ?_) (fun Γ' hP => ?_) (pgn 3 sc_turned.nd)
    · obtain ⟨ad, hP⟩ := hP
      refine st_le (Le.set hP 3 _) ?_
      refine st_setN 2 (en_lend 2 (en_call (ok_quarter T) (hr.mono (by decide)) (ea_cons (ev_var 2) ea_nil) fun P R h => ⟨_, _, _, rfl, hq'.quarters k, h⟩)) (fun a2 => st_nil ⟨a2, ?_⟩) sc_turned.nd
      exact le_cons (le_cons (le_cons (le_no le_nil)))
    · obtain ⟨ad, hP⟩ := hP
      refine st_le hP (st_retL 2 ?_)
      rw [rng_len]
      unfold turned at hq
      rw [← eq, show t.toNat % 4 = (t % 4).toNat by omega] at hq
      exact hq
  refine st_if (et_cmp o_ge (ev_var 1) (ev_gintE T.c_MIRROR)) (fun h => ?_) (fun h => ?_)
  · refine st_setN 2 (en_lend 2 (en_call (ok_mirrored T) (hr.mono (by decide)) (ea_cons (ev_var 2) ea_nil) fun P R h => ⟨_, _, _, rfl, hp, h⟩)) (fun a1 => st_nil ?_) sc_turned.nd
    refine go _ _ ?_
    rw [if_pos (by have := of_decide_eq_true h; omega)]
  · refine st_nil (go _ _ ?_)
    rw [if_neg (by have := of_decide_eq_false h; omega)]
end
noncomputable def fits (s : Bool) (r c r' c' : Nat) : Bool := if s then decide (r = r') && decide (c + c' ≤ 6) else decide (c = c') && decide (r + r' ≤ 6)
noncomputable def putT (s : Bool) (p q : Pic) : Pic := if s then List.zipWith (· ++ ·) p q else p ++ q
noncomputable def partA (s : Bool) (p : Pic) (n : Nat) : Pic := if s then p.map (List.take n) else p.take n
noncomputable def partB (s : Bool) (p : Pic) (n : Nat) : Pic := if s then p.map (List.drop n) else p.drop n
noncomputable def partedS : Tw.Spec := fun A P _ => ∃ (p : Pic) (s : Bool) (n r c : Nat), A = [vl p, vl s, vl (n : Int)] ∧ Pk p r c ∧ P (.own (OwnP repTx repTx (partA s p n) (partB s p n)))
theorem zip_map {A B C : Type} (f : A → B → C) : ∀ (xs : List A) (ys : List B), (xs.zip ys).map (fun x => f x.1 x.2) = List.zipWith f xs ys
  | [], _ => by simp
  | _ :: _, [] => by simp
  | x :: xs, y :: ys => by
    rw [List.zip_cons_cons, List.map_cons, zip_map f xs ys, List.zipWith_cons_cons]
theorem Pk.put {s : Bool} {p q : Pic} {r c r' c' : Nat} (hp : Pk p r c) (hq : Pk q r' c') (h : fits s r c r' c' = true) : ∃ r2 c2, Pk (putT s p q) r2 c2 := by
  have hr := hp.r6
  have hc := hp.c6
  have hr0 := hp.r0
  have hc0 := hp.c0
  unfold fits at h
  unfold putT
  cases s with
  | true =>
    simp only [if_true, Bool.and_eq_true, decide_eq_true_eq] at h ⊢
    refine ⟨r, c + c', ?_, fun x hx => ?_, hr0, by omega, hr, by omega⟩
    · rw [List.length_zipWith, hp.len, hq.len]; omega
    · rw [← zip_map] at hx
      obtain ⟨y, hy, rfl⟩ := List.mem_map.mp hx
      rw [List.length_append, hp.row _ (List.of_mem_zip hy).1, hq.row _ (List.of_mem_zip hy).2]
  | false =>
    simp only [Bool.false_eq_true, if_false, Bool.and_eq_true, decide_eq_true_eq] at h ⊢
    refine ⟨r + r', c, ?_, fun x hx => ?_, by omega, hc0, by omega, hc⟩
    · rw [List.length_append, hp.len, hq.len]
    · rcases List.mem_append.mp hx with z | z
      · exact hp.row x z
      · rw [hq.row x z]; exact h.1.symm
theorem PicOk.put {s : Bool} {p q : Pic} (hp : PicOk p) (hq : PicOk q) : PicOk (putT s p q) := by
  unfold putT
  cases s with
  | true =>
    simp only [if_true]
    intro x hx
    rw [← zip_map] at hx
    obtain ⟨y, hy, rfl⟩ := List.mem_map.mp hx
    intro c hc
    rcases List.mem_append.mp hc with z | z
    · exact hp _ (List.of_mem_zip hy).1 c z
    · exact hq _ (List.of_mem_zip hy).2 c z
  | false =>
    simp only [Bool.false_eq_true, if_false]
    intro x hx
    rcases List.mem_append.mp hx with z | z
    · exact hp x z
    · exact hq x z
theorem PicOk.mirrored {p : Pic} (h : PicOk p) : PicOk (mirrored p) := fun x hx => by
  obtain ⟨y, hy, rfl⟩ := List.mem_map.mp hx
  exact fun c hc => h y hy c (List.mem_reverse.mp hc)
theorem PicOk.quarter {p : Pic} (h : PicOk p) : PicOk (quarter p) := fun x hx => by
  obtain ⟨j, _, rfl⟩ := List.mem_map.mp hx
  intro c hc
  obtain ⟨row, hr, rfl⟩ := List.mem_map.mp hc
  exact getD_ok (h row (List.mem_reverse.mp hr)) j
theorem PicOk.turned {p : Pic} (h : PicOk p) (t : Nat) : PicOk (turned p t) := by
  have go : ∀ n (q : Pic), PicOk q → PicOk (quarters n q) := fun n q hq => by
    induction n with
    | zero => exact hq
    | succ n ih => exact ih.quarter
  unfold Law.turned
  refine go _ _ ?_
  split
  · exact h.mirrored
  · exact h
noncomputable def fitsP (s : Bool) (p q : Pic) : Bool := fits s p.length (p.headD []).length q.length (q.headD []).length
noncomputable def RuleD.made (r : RuleD) (ps : List Pic) : Option Pic := match r with
  | .cell _ _ s => some [s]
  | .beside .. => if fitsP true (ps.getD 0 []) (ps.getD 1 []) then some (putT true (ps.getD 0 []) (ps.getD 1 [])) else none
  | .above .. => if fitsP false (ps.getD 0 []) (ps.getD 1 []) then some (putT false (ps.getD 0 []) (ps.getD 1 [])) else none
  | .turn _ _ _ t => some (turned (ps.getD 0 []) t.toNat)
structure GramD where
  signs : Tx
  start : Tx
  rules : List RuleD
  names : List Tx
noncomputable def GramD.flds (g : GramD) : List (Str × Slot) := [("signs", vl g.signs), ("start", vl g.start), ("kept_rules", vl g.rules), ("kept_names", vl g.names)]
noncomputable instance : Inst GramD := ⟨fun _ => "Grammar", GramD.flds⟩
noncomputable def signsOk (x : Tx) : Bool := (decide (1 ≤ x.length) && decide (x.length ≤ 4)) && (decide x.Nodup && x.all fun c => decide (c ∈ smallTx))
noncomputable def addNew (met : List Tx) (n : Tx) : List Tx := if n ∈ met then met else met ++ [n]
noncomputable def metR (met : List Tx) (r : RuleD) : List Tx := (r.name :: r.parts).foldl addNew met
noncomputable def metL (start : Tx) (rs : List RuleD) : List Tx := rs.foldl metR [start]
theorem addNew_len (met : List Tx) (n : Tx) : (addNew met n).length ≤ met.length + 1 := by
  unfold addNew
  split
  · omega
  · rw [List.length_append]; exact Nat.le_refl _
theorem addAll_len : ∀ (ns met : List Tx), (ns.foldl addNew met).length ≤ met.length + ns.length
  | [], met => Nat.le_refl _
  | n :: ns, met => by
    have h1 := addAll_len ns (addNew met n)
    have h2 := addNew_len met n
    rw [List.foldl_cons, List.length_cons]
    omega
theorem RuleD.parts_len (r : RuleD) : r.parts.length ≤ 2 := by cases r <;> simp [RuleD.parts]
theorem metR_len (met : List Tx) (r : RuleD) : (metR met r).length ≤ met.length + 3 := by
  have h := addAll_len (r.name :: r.parts) met
  have := r.parts_len
  rw [List.length_cons] at h
  unfold metR
  omega
theorem metAll_len : ∀ (rs : List RuleD) (met : List Tx), (rs.foldl metR met).length ≤ met.length + 3 * rs.length
  | [], met => by simp
  | r :: rs, met => by
    have h1 := metAll_len rs (metR met r)
    have h2 := metR_len met r
    rw [List.foldl_cons, List.length_cons]
    omega
theorem metL_len (start : Tx) (rs : List RuleD) : (metL start rs).length ≤ 1 + 3 * rs.length := metAll_len rs [start]
theorem metL_take {start : Tx} {rs : List RuleD} {k : Nat} {r : RuleD} (h : rs[k]? = some r) : metL start (rs.take (k + 1)) = metR (metL start (rs.take k)) r := by
  unfold metL
  rw [List.take_add_one, h, List.foldl_append]
  rfl
theorem fold_take {ns met : List Tx} {k : Nat} {n : Tx} (h : ns[k]? = some n) : (ns.take (k + 1)).foldl addNew met = addNew ((ns.take k).foldl addNew met) n := by
  rw [List.take_add_one, h, List.foldl_append]
  rfl
theorem addNew_mem {met : List Tx} {n x : Tx} : x ∈ addNew met n ↔ x ∈ met ∨ x = n := by
  unfold addNew
  split
  · rename_i h
    exact ⟨.inl, fun z => z.elim id fun e => e ▸ h⟩
  · rw [List.mem_append, List.mem_singleton]
theorem addAll_mem {x : Tx} : ∀ {ns met : List Tx}, x ∈ ns.foldl addNew met ↔ x ∈ met ∨ x ∈ ns
  | [], met => by simp
  | n :: ns, met => by
    rw [List.foldl_cons, addAll_mem, addNew_mem, List.mem_cons]
    exact ⟨fun h => h.elim (fun h => h.elim .inl fun e => .inr (.inl e)) fun h => .inr (.inr h), fun h => h.elim (fun h => .inl (.inl h)) fun h => h.elim (fun e => .inl (.inr e)) .inr⟩
theorem metAll_mem {x : Tx} : ∀ {rs : List RuleD} {met : List Tx}, x ∈ rs.foldl metR met ↔ x ∈ met ∨ ∃ r ∈ rs, x ∈ r.name :: r.parts
  | [], met => by simp
  | r :: rs, met => by
    rw [List.foldl_cons, metAll_mem]
    unfold metR
    rw [addAll_mem]
    constructor
    · rintro ((h | h) | ⟨q, hq, h⟩)
      · exact .inl h
      · exact .inr ⟨r, List.mem_cons_self .., h⟩
      · exact .inr ⟨q, List.mem_cons_of_mem _ hq, h⟩
    · rintro (h | ⟨q, hq, h⟩)
      · exact .inl (.inl h)
      · rcases List.mem_cons.mp hq with rfl | hq
        · exact .inl (.inr h)
        · exact .inr ⟨q, hq, h⟩
noncomputable def RuleD.signIn (signs : Tx) : RuleD → Bool
  | .cell _ _ s => decide (s.headD 0 ∈ signs)
  | _ => true
noncomputable def badSign (signs : Tx) : Nat → List RuleD → Option Nat
  | _, [] => none
  | k, r :: rs => if r.signIn signs then badSign signs (k + 1) rs else some k
noncomputable def whyRules (signs : Tx) (rs : List RuleD) : Option Why := if 24 < rs.length then some ⟨tx "rules", [(rs.length : Int)]⟩ else (badSign signs 0 rs).map fun (k : Nat) => ⟨tx "sign", [(k : Int)]⟩
noncomputable def whyG (signs start : Tx) (rs : List RuleD) : Option Why :=
  if signsOk signs = false then some ⟨tx "signs", []⟩ else
  if isName start = false then some ⟨tx "start", []⟩ else
  match whyRules signs rs with
  | some y => some y
  | none => if 8 < (metL start rs).length then some ⟨tx "names", [((metL start rs).length : Int)]⟩ else none
noncomputable def NoGram (y : Why) : Exn := ⟨"NoGrammar", "why", vl y⟩
noncomputable def NoNameX : Exn := ⟨"NoName", "", .no⟩
noncomputable def mkG (signs start : Tx) (rs : List RuleD) : GramD := ⟨signs, start, rs, metL start rs⟩
noncomputable def numbersL (n : Tx) (rs : List RuleD) : List Int := ((enumL rs).filter fun x => decide (x.2.name = n)).map (·.1)
noncomputable def GramD.told (g : GramD) : Tx := joinL (tx "\n") ([tx "signs " ++ g.signs, tx "start " ++ g.start] ++ g.rules.map RuleD.told)
structure GramD.Ok (g : GramD) : Prop where
  sg : signsOk g.signs = true
  st : isName g.start = true
  rs : ∀ r ∈ g.rules, r.good = true
  many : g.rules.length ≤ 24
  nm : g.names = metL g.start g.rules
  n8 : g.names.length ≤ 8
theorem mkG_ok {signs start : Tx} {rs : List RuleD} (hg : ∀ r ∈ rs, r.good = true) (h : whyG signs start rs = none) : (mkG signs start rs).Ok := by
  unfold whyG at h
  split at h
  · cases h
  split at h
  · cases h
  rename_i h1 h2
  cases hw : whyRules signs rs with
  | some y => rw [hw] at h; cases h
  | none =>
    rw [hw] at h
    have h : (if 8 < (metL start rs).length then some (⟨tx "names", [((metL start rs).length : Int)]⟩ : Why) else none) = none := h
    split at h
    · cases h
    rename_i h3
    unfold whyRules at hw
    split at hw
    · cases hw
    rename_i h4
    exact ⟨(by cases q : signsOk signs with
      | true => exact q
      | false => exact absurd q h1), (by cases q : isName start with
      | true => exact q
      | false => exact absurd q h2), hg, by show rs.length ≤ 24; omega, rfl, by show (metL start rs).length ≤ 8; omega⟩
noncomputable def signsS : Tw.Spec := fun A P _ => ∃ (x : Tx), A = [vl x] ∧ x.length ≤ 1000 ∧ P (rv (signsOk x))
noncomputable def metS : Tw.Spec := fun A P _ => ∃ (start : Tx) (rs : List RuleD), A = [vl start, vl rs] ∧ rs.length ≤ 100 ∧ P (rn (metL start rs))
noncomputable def askedRS : Tw.Spec := fun A P R => ∃ (signs : Tx) (rs : List RuleD), A = [vl signs, vl rs] ∧ (∀ r ∈ rs, r.good = true) ∧ (whyRules signs rs = none → P (rv ())) ∧ (∀ y, whyRules signs rs = some y → R (NoGram y))
noncomputable def gramS (K : PySem.W.Frag) : Tw.Spec := fun A P R => ∃ (C a dx : Addr) (signs start : Tx) (rs : List RuleD), A = [.own (ownI C a dx []), vl signs, vl start, vl rs] ∧ PySem.W.nsIn K mainGlobals "Grammar" = some (some (.ref C)) ∧ signs.length ≤ 1000 ∧ start.length ≤ 1000 ∧ rs.length ≤ 1000 ∧ (∀ r ∈ rs, r.good = true) ∧
  (whyG signs start rs = none → P (.chg repUnit () [ownI C a dx (mkG signs start rs).flds])) ∧ (∀ y, whyG signs start rs = some y → R (NoGram y))
section
variable {P : Program} {w : World} {K : PySem.W.Frag} {mg : Str → Option Value} {base : Heap}
theorem ok_are_signs (T : Txt K mg) : Has P w K mg base 1 "are_signs" ["text"] signsS := by
  refine Has.of T.f_are_signs sc_are_signs (fun A Q R ⟨x, e, _⟩ => by rw [e]; rfl) fun f cdv A outer s0 H E hr Γ Q R ⟨x, e, hl, hq⟩ => ?_
  subst e
  refine st_if (et_or3 (et_cmp o_lt (ev_lenS T.b_len (ev_var 0) (sl_small (by omega))) ev_int) (fun _ => et_cmp o_gt (ev_lenS T.b_len (ev_var 0) (sl_small (by omega))) (ev_gintE T.c_MOST_SIGNS)) (fun _ _ => et_cmp o_ne (ev_lenSet T.b_len T.b_set (ev_var 0) (by omega)) (ev_lenS T.b_len (ev_var 0) (sl_small (by omega))))) (fun h => ?_) (fun h => st_nil ?_)
  · have hb : signsOk x = false := by
      cases hs : signsOk x with
      | false => rfl
      | true =>
        unfold signsOk at hs
        simp only [Bool.or_eq_true, decide_eq_true_eq, Bool.and_eq_true, Bool.not_eq_true', decide_eq_false_iff_not] at h hs
        have := (unlike_nodup x).mpr hs.2.1
        omega
    rw [hb] at hq
    exact st_retV ev_bl hq
  · simp only [Bool.or_eq_false_iff, decide_eq_false_iff_not, Bool.not_eq_false', decide_eq_true_eq] at h
    have hu : x.Nodup := (unlike_nodup x).mp (by omega)
    refine st_retV (ev_eq (y := signsOk x) (ev_all T.b_all (ev_of_en (en_lc (α := Tx) (β := Bool) (own := [("sign", 1)]) (f := fun y => decide (y.headD 0 ∈ smallTx)) (src_str (ev_var 0)) (tg_name 1) (fun _ _ _ _ _ => pgn 1 sc_are_signs.nd)
      (fun y hy _ _ _ _ _ => ?_) sc_are_signs.nd (ok := bk_are_signs (by decide +kernel)) (hz := by rw [List.length_map]; exact sl_small (by omega))))) ?_) hq
    · obtain ⟨c, _, rfl⟩ := List.mem_map.mp hy
      exact ev_cmp o_inS (ev_var 1) (ev_gstrE T.c_SMALL)
    · unfold signsOk
      rw [List.map_map, List.all_map, decide_eq_true (by omega : 1 ≤ x.length), decide_eq_true (by omega : x.length ≤ 4), decide_eq_true hu, Bool.true_and, Bool.true_and, Bool.true_and]
      rfl
theorem ok_names_met (T : Txt K mg) : Has P w K mg base 2 "names_met" ["start", "rules"] metS := by
  refine Has.of T.f_names_met sc_names_met (fun A Q R ⟨x, rs, e, _⟩ => by rw [e]; rfl) fun f cdv A outer s0 H E hr Γ Q R ⟨st0, rs, e, hl, hq⟩ => ?_
  subst e
  refine st_setN 2 (en_lst (es_cons (ev_var 0) es_nil)) (fun ad => ?_) sc_names_met.nd
  refine st_for (fun k Γ => Le Γ [vl st0, vl rs, .lst repTx ad (metL st0 (rs.take k)), .no, .no]) (src_list (ev_var 1)) (tg_name 3) Le.refl (fun k r Γ' hk hP => ?_) (fun Γ' hP => ?_) (pgn 3 sc_names_met.nd)
  · have hlen : (metL st0 (rs.take k)).length ≤ 301 := by
      have := metL_len st0 (rs.take k)
      rw [List.length_take] at this
      omega
    rw [metL_take hk]
    refine st_le (Le.set hP 3 _) ?_
    generalize metL st0 (rs.take k) = met at hlen
    refine st_for (fun m Γ => Le Γ [vl st0, vl rs, .lst repTx ad (((r.name :: r.parts).take m).foldl addNew met), vl r, .no]) (src_list (xs := r.name :: r.parts) (ev_of_en (en_addL (xs := [r.name]) (ys := r.parts) (ev_of_en (en_lst (es_cons (ev_fld (o_cls T r) (a_name T r) rfl (RuleD.f_name _) (ev_var 3)) es_nil))) (ev_of_en (en_meth0 (o_cls T r) (ok_parts T r) (hr.mono (by decide)) rfl (RuleD.f_parts _) (ev_var 3) fun P' R' h => ⟨_, rfl, rfl, h⟩)) (sl_small (by have := r.parts_len; simp only [List.length_cons, List.length_nil]; omega))))) (tg_name 4) Le.refl (fun m n Γ2 hm hP2 => ?_) (fun Γ2 hP2 => ?_) (pgn 4 sc_names_met.nd)
    · rw [fold_take hm]
      have hl2 : (((r.name :: r.parts).take m).foldl addNew met).length ≤ 304 := by
        have h1 := addAll_len ((r.name :: r.parts).take m) met
        have h2 := r.parts_len
        rw [List.length_take, List.length_cons] at h1
        omega
      refine st_le (Le.set hP2 4 _) ?_
      generalize ((r.name :: r.parts).take m).foldl addNew met = met2 at hl2
      refine st_if (et_lendO 2 frozL (et_cmp o_notInLS (ev_var 4) (ev_var 2))) (fun h => ?_) (fun h => st_nil (st_nil ?_))
      · have h' : n ∉ met2 := by simpa using h
        refine st_append 2 (ad := ad) (xs := met2) (x := n) (ev_var 4) (st_nil (st_nil ?_)) (lt_line (by omega))
        show Le _ [vl st0, vl rs, .lst repTx ad (addNew met2 n), vl r, .no]
        rw [show addNew met2 n = met2 ++ [n] from if_neg h']
        exact le_cons (le_cons (le_cons (le_cons (le_no le_nil))))
      · have h' : n ∈ met2 := by simpa using h
        show Le _ [vl st0, vl rs, .lst repTx ad (addNew met2 n), vl r, .no]
        rw [show addNew met2 n = met2 from if_pos h']
        exact le_cons (le_cons (le_cons (le_cons (le_no le_nil))))
    · rw [List.take_length] at hP2
      exact st_nil (Le.trans hP2 (le_cons (le_cons (le_cons (le_no (le_no le_nil))))))
  · rw [List.take_length] at hP
    exact st_le hP (st_retL 2 hq)
theorem badSign_drop {signs : Tx} {rs : List RuleD} {k : Nat} {r : RuleD} (h : rs[k]? = some r) : badSign signs k (rs.drop k) = if r.signIn signs then badSign signs (k + 1) (rs.drop (k + 1)) else some k := by
  obtain ⟨hk, rfl⟩ := List.getElem?_eq_some_iff.mp h
  rw [List.drop_eq_getElem_cons hk]
  rfl
theorem ok_asked_rules (T : Txt K mg) : Has P w K mg base 4 "asked_rules" ["signs", "rules"] askedRS := by
  refine Has.ofX T.f_asked_rules sc_asked_rules (fun A Q R ⟨x, rs, e, _⟩ => by rw [e]; rfl) fun f cdv A outer s0 H E hr Γ Q R ⟨signs, rs, e, hg, h1, h2⟩ => ?_
  subst e
  refine st_if (et_cmp o_gt (ev_len T.b_len (ev_var 1)) (ev_gintE T.c_MOST_RULES)) (fun h => ?_) (fun h => st_nil ?_)
  · refine st_raise1 T.x_NoGrammar (init_NoGrammar T) (hr.mono (by decide)) (ev_why (ev_str "rules") (es_cons (ev_len T.b_len (ev_var 1)) es_nil)) (h2 _ ?_)
    unfold whyRules
    rw [if_pos (by have := of_decide_eq_true h; omega)]
  have h24 : rs.length ≤ 24 := by have := of_decide_eq_false h; omega
  have ew : whyRules signs rs = (badSign signs 0 rs).map fun (k : Nat) => ⟨tx "sign", [(k : Int)]⟩ := by
    unfold whyRules
    exact if_neg (show ¬ 24 < rs.length by omega)
  rw [ew] at h1 h2
  refine st_for (fun k Γ => badSign signs k (rs.drop k) = badSign signs 0 rs ∧ Le Γ [vl signs, vl rs, .no, .no]) (src_enum T.b_enumerate (ev_var 1)) (tg_pair 2 3 (by decide)) ⟨rfl, Le.refl⟩ (fun k x Γ' hk hP => ?_) (fun Γ' hP => ?_) (pg2 2 3 (pgn 2 sc_asked_rules.nd) (pgn 3 sc_asked_rules.nd))
  · obtain ⟨n, r⟩ := x
    obtain ⟨hn, hr'⟩ := enumL_get hk
    subst hn
    obtain ⟨hb, hP⟩ := hP
    rw [badSign_drop hr'] at hb
    have hgr := hg r (List.mem_of_getElem? hr')
    refine st_le (Le.set (Le.set hP 2 _) 3 _) ?_
    have fin : Le (((([vl signs, vl rs, .no, .no] : List Tw.Slot).set 2 (vl (k : Int))).set 3 (vl r))) [vl signs, vl rs, .no, .no] := le_cons (le_cons (le_no (le_no le_nil)))
    refine st_if (k := !r.signIn signs) ?_ (fun h => ?_) (fun h => st_nil (st_nil ⟨?_, fin⟩))
    · cases r with
      | cell n c s =>
        obtain ⟨d, rfl⟩ : ∃ d, s = [d] := by
          have hs := signOk_of (Bool.and_eq_true .. ▸ hgr : signOk s = true ∧ _).1
          match s, hs with
          | [d], _ => exact ⟨d, rfl⟩
        exact et_eq (et_and (et_val (ev_isiI T.b_isinstance T.o_CellRule T.o_CellRule T.u_CellRule_CellRule rfl (ev_var 3))) fun _ => et_cmp (o_notInS (c := d)) (ev_fld (x := RuleD.cell n c [d]) (y := ([d] : Tx)) T.o_CellRule T.a_CellRule_sign rfl rfl (ev_var 3)) (ev_var 0)) rfl
      | beside n c a b => exact et_eq (et_and (m := false) (et_val (ev_isiI T.b_isinstance T.o_BesideRule T.o_CellRule T.u_BesideRule_CellRule rfl (ev_var 3))) fun h => absurd h (by decide)) rfl
      | above n c a b => exact et_eq (et_and (m := false) (et_val (ev_isiI T.b_isinstance T.o_AboveRule T.o_CellRule T.u_AboveRule_CellRule rfl (ev_var 3))) fun h => absurd h (by decide)) rfl
      | turn n c a t => exact et_eq (et_and (m := false) (et_val (ev_isiI T.b_isinstance T.o_TurnRule T.o_CellRule T.u_TurnRule_CellRule rfl (ev_var 3))) fun h => absurd h (by decide)) rfl
    · have h' : r.signIn signs = false := by simpa using h
      rw [h', if_neg (by decide)] at hb
      exact st_raise1 T.x_NoGrammar (init_NoGrammar T) (hr.mono (by decide)) (ev_why (ev_str "sign") (es_cons (ev_var 2) es_nil)) (h2 _ (by rw [← hb]; rfl))
    · have h' : r.signIn signs = true := by simpa using h
      rw [h', if_pos rfl] at hb
      exact hb
  · obtain ⟨hb, hP⟩ := hP
    rw [enumL_len, List.drop_length] at hb
    exact st_le hP (st_nil (h1 (by rw [← hb]; rfl)))
end
noncomputable def gNewS (α : Type) [i : Rep α] (f : GramD → List α) : Tw.Spec := fun A P _ => ∃ (g : GramD), A = [vl g] ∧ P (rn (f g))
noncomputable def gRuleS : Tw.Spec := fun A P _ => ∃ (g : GramD) (k : Int) (r : RuleD), A = [vl g, vl k] ∧ atI g.rules k = some r ∧ P (rv r)
noncomputable def gNumS : Tw.Spec := fun A P R => ∃ (g : GramD) (n : Tx), A = [vl g, vl n] ∧ g.rules.length ≤ 100 ∧ (n ∈ g.names → P (rn (numbersL n g.rules))) ∧ (n ∉ g.names → R NoNameX)
section
variable {P : Program} {w : World} {K : PySem.W.Frag} {mg : Str → Option Value} {base : Heap}
theorem ok_Grammar_init (T : Txt K mg) : HasM P w K mg base 6 "Grammar" "__init__" ["self", "signs", "start", "rules"] (gramS K) := by
  refine HasM.ofI T.m_Grammar_init sc_Grammar_init (fun A Q R ⟨C, a, dx, signs, st0, rs, e, _⟩ => by rw [e]; rfl) fun f cdv A outer s0 H E hr Γ Q R ⟨C, a, dx, signs, st0, rs, e, hC, l1, l2, l3, hg, h1, h2⟩ => ⟨ownI C a dx [], ?_⟩
  subst e
  have hc := OC.cl T.o_Grammar hC
  refine st_if (et_not (et_val (ev_call (x := signsOk signs) (ok_are_signs T) (hr.mono (by decide)) (ea_cons (ev_var 1) ea_nil) fun P R h => ⟨signs, rfl, l1, h⟩))) (fun h => ?_) (fun h => st_nil ?_)
  · have h' : signsOk signs = false := by simpa using h
    exact st_raise1 T.x_NoGrammar (init_NoGrammar T) (hr.mono (by decide)) (ev_why (ev_str "signs") es_nil) (h2 _ (if_pos h'))
  have g1 : signsOk signs = true := by simpa using h
  refine st_if (et_not (et_val (ev_call (x := isName st0) (ok_is_name T) (hr.mono (by decide)) (ea_cons (ev_var 2) ea_nil) fun P R h => ⟨st0, rfl, l2, h⟩))) (fun h => ?_) (fun h => st_nil ?_)
  · have h' : isName st0 = false := by simpa using h
    refine st_raise1 T.x_NoGrammar (init_NoGrammar T) (hr.mono (by decide)) (ev_why (ev_str "start") es_nil) (h2 _ ?_)
    unfold whyG
    rw [if_neg (by rw [g1]; decide), if_pos h']
  have g2 : isName st0 = true := by simpa using h
  have eW : whyG signs st0 rs = (match whyRules signs rs with
    | some y => some y
    | none => if 8 < (metL st0 rs).length then some (⟨tx "names", [((metL st0 rs).length : Int)]⟩ : Why) else none) := by
    unfold whyG
    rw [if_neg (by rw [g1]; decide), if_neg (by rw [g2]; decide)]
  rw [eW] at h1 h2
  cases hw : whyRules signs rs with
  | some y =>
    rw [hw] at h2
    exact st_dropR (R := fun x => x = NoGram y) (exx_call (ok_asked_rules T) (hr.mono (by decide)) (ea_cons (ev_var 1) (ea_cons (ev_var 3) ea_nil)) fun P' R' _ h => ⟨signs, rs, rfl, hg, fun z => (by rw [hw] at z; cases z), fun y' hy => (by rw [hw] at hy; cases hy; exact h _ rfl)⟩) (fun x e => e ▸ h2 y rfl)
  | none =>
    rw [hw] at h1 h2
    have h24 : rs.length ≤ 24 := by
      unfold whyRules at hw
      split at hw
      · cases hw
      · omega
    refine st_drop (P := fun r => r = rv ()) (ex_call (ok_asked_rules T) (hr.mono (by decide)) (ea_cons (ev_var 1) (ea_cons (ev_var 3) ea_nil)) fun P' R' h => ⟨signs, rs, rfl, hg, fun _ => h _ rfl, fun y hy => by rw [hw] at hy; cases hy⟩) ?_
    refine st_setN 4 (en_call (ok_names_met T) (hr.mono (by decide)) (ea_cons (ev_var 2) (ea_cons (ev_var 3) ea_nil)) fun P R h => ⟨st0, rs, rfl, by omega, h⟩) (fun ad => ?_) sc_Grammar_init.nd
    refine st_freeze 4 frozL ?_
    refine st_if (et_cmp o_gt (ev_len T.b_len (ev_var 4)) (ev_gintE T.c_MOST_NAMES)) (fun h => ?_) (fun h => st_nil ?_)
    · have h' : 8 < (metL st0 rs).length := by have := of_decide_eq_true h; omega
      exact st_raise1 T.x_NoGrammar (init_NoGrammar T) (hr.mono (by decide)) (ev_why (ev_str "names") (es_cons (ev_len T.b_len (ev_var 4)) es_nil)) (h2 _ (if_pos h'))
    have h' : ¬ 8 < (metL st0 rs).length := by have := of_decide_eq_false h; omega
    refine st_setF 0 (fs := []) (ev_var 1) ?_ hc (T.a_Grammar_signs C hC) rfl
    refine st_setF 0 (fs := [("signs", vl signs)]) (ev_var 2) ?_ hc (T.a_Grammar_start C hC) (lk rfl)
    refine st_setF 0 (fs := [("signs", vl signs), ("start", vl st0)]) (ev_of_en (en_list T.b_list (ev_var 3))) ?_ hc (T.a_Grammar_kept_rules C hC) (lk rfl)
    exact st_setF 0 (fs := [("signs", vl signs), ("start", vl st0), ("kept_rules", vl rs)]) (ev_var 4) (st_nil ⟨_, rfl, rfl, h1 (if_neg h')⟩) hc (T.a_Grammar_kept_names C hC) (lk rfl)
theorem ok_Grammar_rules (T : Txt K mg) : HasM P w K mg base 1 "Grammar" "rules" ["self"] (gNewS RuleD GramD.rules) := by
  refine HasM.of T.m_Grammar_rules sc_Grammar_rules (fun A Q R ⟨g, e, _⟩ => by rw [e]; rfl) fun f cdv A outer s0 H E hr Γ Q R ⟨g, e, hq⟩ => ?_
  subst e
  exact st_retE (en_list T.b_list (ev_fld (x := g) (y := g.rules) T.o_Grammar T.a_Grammar_kept_rules rfl rfl (ev_var 0))) hq
theorem ok_Grammar_rule (T : Txt K mg) : HasM P w K mg base 1 "Grammar" "rule" ["self", "k"] gRuleS := by
  refine HasM.of T.m_Grammar_rule sc_Grammar_rule (fun A Q R ⟨g, k, r, e, _⟩ => by rw [e]; rfl) fun f cdv A outer s0 H E hr Γ Q R ⟨g, k, r, e, hk, hq⟩ => ?_
  subst e
  exact st_retV (ev_ixL (xs := g.rules) (ev_fld (x := g) (y := g.rules) T.o_Grammar T.a_Grammar_kept_rules rfl rfl (ev_var 0)) (ev_var 1) hk) hq
theorem ok_Grammar_names (T : Txt K mg) : HasM P w K mg base 1 "Grammar" "names" ["self"] (gNewS Tx GramD.names) := by
  refine HasM.of T.m_Grammar_names sc_Grammar_names (fun A Q R ⟨g, e, _⟩ => by rw [e]; rfl) fun f cdv A outer s0 H E hr Γ Q R ⟨g, e, hq⟩ => ?_
  subst e
  exact st_retE (en_list T.b_list (ev_fld (x := g) (y := g.names) T.o_Grammar T.a_Grammar_kept_names rfl rfl (ev_var 0))) hq
theorem ok_Grammar_numbers_of (T : Txt K mg) : HasM P w K mg base 1 "Grammar" "numbers_of" ["self", "name"] gNumS := by
  refine HasM.of T.m_Grammar_numbers_of sc_Grammar_numbers_of (fun A Q R ⟨g, n, e, _⟩ => by rw [e]; rfl) fun f cdv A outer s0 H E hr Γ Q R ⟨g, n, e, hl, h1, h2⟩ => ?_
  subst e
  refine st_if (et_cmp o_notInLS (ev_var 1) (ev_fld (x := g) (y := g.names) T.o_Grammar T.a_Grammar_kept_names rfl rfl (ev_var 0))) (fun h => ?_) (fun h => st_nil ?_)
  · exact st_raise0 T.x_NoName T.p_NoName (h2 (by simpa using h))
  · refine st_retE (en_lcIf (α := Int × RuleD) (β := Int) (own := [("k", 2), ("rule", 3)]) (f := fun x => x.1) (q := fun x => decide (x.2.name = n)) (src_enum (xs := g.rules) T.b_enumerate (ev_fld (x := g) (y := g.rules) T.o_Grammar T.a_Grammar_kept_rules rfl rfl (ev_var 0))) (tg_pair 2 3 (by decide)) (fun _ _ _ _ _ => pg2 2 3 (pgn 2 sc_Grammar_numbers_of.nd) (pgn 3 sc_Grammar_numbers_of.nd))
      (fun x hx _ _ _ _ _ => et_cmp o_eqS (ev_fld (x := x.2) (y := x.2.name) (o_cls T _) (a_name T _) rfl (RuleD.f_name _) (ev_var 3)) (ev_var 1)) (fun x hx _ _ _ _ _ _ => ev_var 2) sc_Grammar_numbers_of.nd (ok := bk_Grammar_numbers_of (by decide +kernel)) (hz := by rw [enumL_len]; exact sl_small (by omega))) (h1 (by simpa using h))
end
structure GramD.Made (g : GramD) : Prop where
  rs : ∀ r ∈ g.rules, r.good = true
  why : whyG g.signs g.start g.rules = none
  eq : g = mkG g.signs g.start g.rules
theorem GramD.Made.ok {g : GramD} (h : g.Made) : g.Ok := by
  have := mkG_ok h.rs h.why
  rw [← h.eq] at this
  exact this
theorem GramD.Made.mk' {signs start : Tx} {rs : List RuleD} (hg : ∀ r ∈ rs, r.good = true) (h : whyG signs start rs = none) : (mkG signs start rs).Made := ⟨hg, h, rfl⟩
section
variable {P : Program} {w : World} {K : PySem.W.Frag} {mg : Str → Option Value} {base : Heap}
theorem ev_mkG {X : Cx} {Γ : List Tw.Slot} {pos p : Pos} {e1 e2 e3 : Expr} {k : Nat} {signs start : Tx} {rs : List RuleD} (T : Txt X.K X.mg) (hr : Room k X.A) (ha : EA X Γ [e1, e2, e3] [vl signs, vl start, vl rs]) (hg : ∀ r ∈ rs, r.good = true) (hw : whyG signs start rs = none) (l1 : signs.length ≤ 1000) (l2 : start.length ≤ 1000) (l3 : rs.length ≤ 1000) (hk : autoParam (7 ≤ k) Tw.aDec) (hgl : autoParam (Gl X "Grammar") Tw.aRfl)
    (he : autoParam (starEach [e1, e2, e3] X.env = (false, eval e1 X.env) :: starEach [e2, e3] X.env) Tw.aStar) (hpl : autoParam ((backTo pos (starEach [e2, e3] X.env)).any (·.1) = false) Tw.aPl) : EV X Γ (.Call (.Name "Grammar" p) [e1, e2, e3] [] pos) (mkG signs start rs) :=
  ev_makeV (x := mkG signs start rs) T.o_Grammar (ok_Grammar_init T) (hr.mono hk) rfl ha (fun C hC ad dx P' R' h => ⟨C, ad, dx, signs, start, rs, rfl, hC, l1, l2, l3, hg, fun _ => h, fun y hy => by rw [hw] at hy; cases hy⟩) hgl (by decide) he hpl
end
noncomputable def mkPic (r c : Nat) (f : Nat → Nat → Nat) : Pic := (List.range r).map fun i => (List.range c).map fun j => f i j
theorem mkPic_congr {r c : Nat} {f g : Nat → Nat → Nat} (h : ∀ i j, i < r → j < c → f i j = g i j) : mkPic r c f = mkPic r c g := by
  unfold mkPic
  exact List.map_congr_left fun i hi => List.map_congr_left fun j hj => h i j (List.mem_range.mp hi) (List.mem_range.mp hj)
noncomputable def ent (p : Pic) (i j : Nat) : Nat := (p.getD i []).getD j 0
theorem mkPic_ent {p : Pic} {r c : Nat} (hl : p.length = r) (hrow : ∀ x ∈ p, x.length = c) : p = mkPic r c (ent p) := by
  refine List.ext_getElem (by unfold mkPic; simp [hl]) fun i h1 h2 => ?_
  have hx := hrow p[i] (List.getElem_mem h1)
  refine List.ext_getElem (by rw [hx]; simp [mkPic]) fun j h3 h4 => ?_
  simp [mkPic, ent, List.getD_eq_getElem?_getD, List.getElem?_eq_getElem h1, List.getElem?_eq_getElem h3]
theorem mkPic_len {r c : Nat} {f : Nat → Nat → Nat} : (mkPic r c f).length = r := by unfold mkPic; simp
theorem mkPic_rev {r c : Nat} {f : Nat → Nat → Nat} : (mkPic r c f).reverse = mkPic r c fun i j => f (r - 1 - i) j := by
  refine List.ext_getElem (by simp [mkPic_len]) fun i h1 h2 => ?_
  simp [mkPic, List.getElem_reverse]
theorem mkPic_quarter {r c : Nat} {f : Nat → Nat → Nat} (hr : 0 < r) : quarter (mkPic r c f) = mkPic c r fun i j => f (r - 1 - j) i := by
  have hh : ((mkPic r c f).headD []).length = c := by
    obtain ⟨k, rfl⟩ : ∃ k, r = k + 1 := ⟨r - 1, by omega⟩
    unfold mkPic
    rw [List.range_succ_eq_map]
    simp
  unfold quarter
  rw [hh, mkPic_rev]
  unfold mkPic
  refine List.map_congr_left fun i hi => ?_
  rw [List.map_map]
  refine List.map_congr_left fun j hj => ?_
  have := List.mem_range.mp hi
  simp [List.getD_eq_getElem?_getD, this]
theorem mkPic_mirrored {r c : Nat} {f : Nat → Nat → Nat} : mirrored (mkPic r c f) = mkPic r c fun i j => f i (c - 1 - j) := by
  unfold mirrored mkPic
  rw [List.map_map]
  refine List.map_congr_left fun i hi => ?_
  refine List.ext_getElem (by simp) fun j h1 h2 => ?_
  simp [List.getElem_reverse]
theorem Pk.mk' {p : Pic} {r c : Nat} (h : Pk p r c) : p = mkPic r c (ent p) := mkPic_ent h.len h.row
theorem q4 {p : Pic} {r c : Nat} (h : Pk p r c) : quarter (quarter (quarter (quarter p))) = p := by
  have hr := h.r0
  have hc := h.c0
  conv => lhs; rw [h.mk']
  rw [mkPic_quarter hr, mkPic_quarter hc, mkPic_quarter hr, mkPic_quarter hc]
  conv => rhs; rw [h.mk']
  refine mkPic_congr fun i j hi hj => ?_
  rw [show r - 1 - (r - 1 - i) = i by omega, show c - 1 - (c - 1 - j) = j by omega]
theorem mm {p : Pic} {r c : Nat} (h : Pk p r c) : mirrored (mirrored p) = p := by
  conv => lhs; rw [h.mk']
  rw [mkPic_mirrored, mkPic_mirrored]
  conv => rhs; rw [h.mk']
  refine mkPic_congr fun i j hi hj => ?_
  rw [show c - 1 - (c - 1 - j) = j by omega]
theorem mq {p : Pic} {r c : Nat} (h : Pk p r c) : mirrored (quarter p) = quarter (quarter (quarter (mirrored p))) := by
  have hr := h.r0
  have hc := h.c0
  rw [h.mk']
  rw [mkPic_quarter hr, mkPic_mirrored, mkPic_mirrored, mkPic_quarter hr, mkPic_quarter hc, mkPic_quarter hr]
  refine mkPic_congr fun i j hi hj => ?_
  rw [show c - 1 - (c - 1 - i) = i by omega]
theorem quarters_add (m : Nat) (p : Pic) : ∀ n, quarters (n + m) p = quarters n (quarters m p)
  | 0 => by rw [Nat.zero_add]; rfl
  | n + 1 => by
    rw [show n + 1 + m = (n + m) + 1 by omega]
    show quarter (quarters (n + m) p) = quarter _
    rw [quarters_add m p n]
theorem quarters_four {p : Pic} {r c : Nat} (h : Pk p r c) (n : Nat) : quarters (n + 4) p = quarters n p := by
  rw [quarters_add]
  show quarters n (quarter (quarter (quarter (quarter p)))) = _
  rw [q4 h]
theorem quarters_mod {p : Pic} {r c : Nat} (h : Pk p r c) (n : Nat) : quarters n p = quarters (n % 4) p := by
  have : ∀ k, quarters (n % 4 + 4 * k) p = quarters (n % 4) p := by
    intro k
    induction k with
    | zero => rfl
    | succ k ih => rw [show n % 4 + 4 * (k + 1) = (n % 4 + 4 * k) + 4 by omega, quarters_four h, ih]
  have e := this (n / 4)
  rw [show n % 4 + 4 * (n / 4) = n by omega] at e
  exact e
theorem mquarters {p : Pic} {r c : Nat} (h : Pk p r c) : ∀ n, mirrored (quarters n p) = quarters (3 * n) (mirrored p)
  | 0 => rfl
  | n + 1 => by
    show mirrored (quarter (quarters n p)) = _
    rw [mq (h.quarters n), mquarters h n, show 3 * (n + 1) = 3 + 3 * n by omega, quarters_add]
    rfl
noncomputable def afterN (t u : Nat) : Nat := (if decide (4 ≤ t) != decide (4 ≤ u) then 4 else 0) + ((if 4 ≤ u then 4 - t % 4 else t % 4) + u) % 4
noncomputable def backN (t : Nat) : Nat := if 4 ≤ t then t else (4 - t) % 4
theorem afterN_lt {t u : Nat} : afterN t u < 8 := by
  unfold afterN
  split <;> omega
theorem turned_after {p : Pic} {r c : Nat} (h : Pk p r c) {t u : Nat} (ht : t < 8) (hu : u < 8) : turned (turned p t) u = turned p (afterN t u) := by
  have hm := h.mirrored
  have aux : ∀ a b : Nat, a % 4 = b % 4 → ∀ q : Pic, Pk q r c → quarters a q = quarters b q := fun a b e q hq => by rw [quarters_mod hq a, quarters_mod hq b, e]
  have e0 : ∀ t, turned p t = quarters (t % 4) (if 4 ≤ t then mirrored p else p) := fun _ => rfl
  by_cases h1 : 4 ≤ t
  · by_cases h2 : 4 ≤ u
    · have en : afterN t u = (4 - t % 4 + u) % 4 := by unfold afterN; simp [h1, h2]
      rw [en, e0 t, if_pos h1]
      show quarters (u % 4) (if 4 ≤ u then mirrored (quarters (t % 4) (mirrored p)) else _) = _
      rw [if_pos h2, mquarters hm, mm h, ← quarters_add, e0, if_neg (by omega)]
      exact aux _ _ (by omega) _ h
    · have en : afterN t u = 4 + (t % 4 + u) % 4 := by unfold afterN; simp [h1, h2]
      rw [en, e0 t, if_pos h1]
      show quarters (u % 4) (if 4 ≤ u then _ else quarters (t % 4) (mirrored p)) = _
      rw [if_neg h2, ← quarters_add, e0, if_pos (by omega)]
      exact aux _ _ (by omega) _ hm
  · by_cases h2 : 4 ≤ u
    · have en : afterN t u = 4 + (4 - t % 4 + u) % 4 := by unfold afterN; simp [h1, h2]
      rw [en, e0 t, if_neg h1]
      show quarters (u % 4) (if 4 ≤ u then mirrored (quarters (t % 4) p) else _) = _
      rw [if_pos h2, mquarters h, ← quarters_add, e0, if_pos (by omega)]
      exact aux _ _ (by omega) _ hm
    · have en : afterN t u = (t % 4 + u) % 4 := by unfold afterN; simp [h1, h2]
      rw [en, e0 t, if_neg h1]
      show quarters (u % 4) (if 4 ≤ u then _ else quarters (t % 4) p) = _
      rw [if_neg h2, ← quarters_add, e0, if_neg (by omega)]
      exact aux _ _ (by omega) _ h
theorem after_back : ∀ t < 8, afterN t (backN t) = 0 ∧ afterN (backN t) t = 0 ∧ backN t < 8 := by decide
theorem turned_zero (p : Pic) : turned p 0 = p := rfl
theorem turned_back {p : Pic} {r c : Nat} (h : Pk p r c) {t : Nat} (ht : t < 8) : turned (turned p t) (backN t) = p := by
  have := after_back t ht
  rw [turned_after h ht this.2.2, this.1]
  rfl
noncomputable def backS : Tw.Spec := fun A P _ => ∃ (t : Nat), A = [vl (t : Int)] ∧ P (rv (backN t : Int))
section
variable {P : Program} {w : World} {K : PySem.W.Frag} {mg : Str → Option Value} {base : Heap}
theorem ok_back (T : Txt K mg) : Has P w K mg base 1 "back" ["t"] backS := by
  refine Has.of T.f_back sc_back (fun A Q R ⟨t, e, _⟩ => by rw [e]; rfl) fun f cdv A outer s0 H E hr Γ Q R ⟨t, e, hq⟩ => ?_
  subst e
  have e1 : ∀ a b : Int, a = b → Q (rv b) → Q (rv a) := fun a b e h => e ▸ h
  refine st_if (et_cmp o_ge (ev_var 0) (ev_gintE T.c_MIRROR)) (fun h => ?_) (fun h => ?_)
  · refine st_retV (ev_var 0) (e1 _ _ ?_ hq)
    have := of_decide_eq_true h
    unfold backN
    rw [if_pos (by omega)]
  · refine st_nil (st_retV (ev_bin (o_mod (by decide)) (ev_bin o_sub (ev_gintE T.c_MIRROR) (ev_var 0)) (ev_gintE T.c_MIRROR)) (e1 _ _ ?_ hq))
    have := of_decide_eq_false h
    unfold backN
    rw [if_neg (by omega)]; omega
end
section
variable {P : Program} {w : World} {K : PySem.W.Frag} {mg : Str → Option Value} {base : Heap}
theorem ok_parted (T : Txt K mg) : Has P w K mg base 1 "parted" ["picture", "side_by_side", "at"] partedS := by
  refine Has.of T.f_parted sc_parted (fun A Q R ⟨p, s, n, r, c, e, _⟩ => by rw [e]; rfl) fun f cdv A outer s0 H E hr Γ Q R ⟨p, s, n, r, c, e, hp, hq⟩ => ?_
  subst e
  have hr6 := hp.r6
  have hc6 := hp.c6
  have hz : p.length ≤ sizeLine := by rw [hp.len]; exact sl6 hr6
  have hrow : ∀ x ∈ p, x.length ≤ sizeLine := fun x hx => by rw [hp.row x hx]; exact sl6 hc6
  refine st_if (et_val (ev_var 1)) (fun h => ?_) (fun h => st_nil ?_)
  · subst h
    exact st_ret (ex_pairN (i := repTx) (j := repTx)
      (en_lc (α := Tx) (β := Tx) (own := [("row", 3)]) (f := List.take n) (src_list (ev_var 0)) (tg_name 3) (fun _ _ _ _ _ => pgn 3 sc_parted.nd) (fun x hx _ _ _ _ _ => ev_eq (ev_sliceS (o1 := none) (o2 := some (n : Int)) (ev_var 3) trivial (ev_var 2) (hrow x hx)) cut_to) sc_parted.nd (ok := bk_parted (by decide +kernel)) (hz := hz))
      (en_lc (α := Tx) (β := Tx) (own := [("row", 3)]) (f := List.drop n) (src_list (ev_var 0)) (tg_name 3) (fun _ _ _ _ _ => pgn 3 sc_parted.nd) (fun x hx _ _ _ _ _ => ev_eq (ev_sliceS (o1 := some (n : Int)) (o2 := none) (ev_var 3) (ev_var 2) trivial (hrow x hx)) cut_from) sc_parted.nd (ok := bk_parted (by decide +kernel)) (hz := hz)))
      fun r h => h ▸ hq
  · subst h
    exact st_ret (ex_pairN (i := repTx) (j := repTx) (en_eq (en_sliceL (o1 := none) (o2 := some (n : Int)) (ev_var 0) trivial (ev_var 2)) cut_to) (en_eq (en_sliceL (o1 := some (n : Int)) (o2 := none) (ev_var 0) (ev_var 2) trivial) cut_from)) fun r h => h ▸ hq
end
local macro_rules | `(tactic| walk_at "le") => `(tactic| repeat (first | exact le_nil | refine le_cons ?_ | refine le_no ?_))
noncomputable abbrev Win := Tup Int
noncomputable def win (t l b r : Nat) : Win := ⟨[(t : Int), (l : Int), (b : Int), (r : Int)]⟩
noncomputable def winR (c t l b : Nat) : List Win := (List.range (c - l)).map fun k => win t l b (l + 1 + k)
noncomputable def winB (r c t l : Nat) : List Win := (List.range (r - t)).flatMap fun k => winR c t l (t + 1 + k)
noncomputable def winL (r c t : Nat) : List Win := (List.range c).flatMap fun l => winB r c t l
noncomputable def windows (r c : Nat) : List Win := (List.range r).flatMap fun t => winL r c t
theorem range_flat {A : Type} {k : Nat} (f : Nat → List A) : (List.range (k + 1)).flatMap f = (List.range k).flatMap f ++ f k := by
  rw [List.range_succ, List.flatMap_append]
  simp
noncomputable def WinIn (r c : Nat) (x : Win) : Prop := ∃ t l b q : Nat, x = win t l b q ∧ t < b ∧ b ≤ r ∧ l < q ∧ q ≤ c
theorem mem_windows {r c : Nat} {x : Win} (h : x ∈ windows r c) : WinIn r c x := by
  unfold windows winL winB winR at h
  obtain ⟨t, ht, h⟩ := List.mem_flatMap.mp h
  obtain ⟨l, hl, h⟩ := List.mem_flatMap.mp h
  obtain ⟨k, hk, h⟩ := List.mem_flatMap.mp h
  obtain ⟨m, hm, rfl⟩ := List.mem_map.mp h
  have := List.mem_range.mp ht
  have := List.mem_range.mp hl
  have := List.mem_range.mp hk
  have := List.mem_range.mp hm
  exact ⟨t, l, t + 1 + k, l + 1 + m, rfl, by omega, by omega, by omega, by omega⟩
noncomputable def cutOut (p : Pic) (t l b q : Nat) : Pic := ((p.drop t).take (b - t)).map fun row => (row.drop l).take (q - l)
theorem cutL_nat {A : Type} {xs : List A} {a b : Nat} (hb : b ≤ xs.length) (hab : a ≤ b) : cutL xs (some (a : Int)) (some (b : Int)) = (xs.drop a).take (b - a) := by
  unfold cutL
  rw [HT.sIx_nat, HT.sIx_nat, Nat.min_eq_left hb, Nat.min_eq_left (by omega)]
theorem Pk.cut {p : Pic} {r c : Nat} (h : Pk p r c) {t l b q : Nat} (h1 : t < b) (h2 : b ≤ r) (h3 : l < q) (h4 : q ≤ c) : Pk (cutOut p t l b q) (b - t) (q - l) := by
  have hr := h.r6
  have hc := h.c6
  refine ⟨by unfold cutOut; rw [List.length_map, List.length_take, List.length_drop, h.len]; omega, fun x hx => ?_, by omega, by omega, by omega, by omega⟩
  obtain ⟨row, hrow, rfl⟩ := List.mem_map.mp hx
  rw [List.length_take, List.length_drop, h.row row (List.mem_of_mem_drop (List.mem_of_mem_take hrow))]
  omega
theorem PicOk.cut {p : Pic} (h : PicOk p) (t l b q : Nat) : PicOk (cutOut p t l b q) := fun x hx => by
  obtain ⟨row, hrow, rfl⟩ := List.mem_map.mp hx
  exact fun c hc => h row (List.mem_of_mem_drop (List.mem_of_mem_take hrow)) c (List.mem_of_mem_drop (List.mem_of_mem_take hc))
noncomputable def sizeS : Tw.Spec := fun A P _ => ∃ (p : Pic) (r c : Nat), A = [vl p] ∧ Pk p r c ∧ P (rv (Tup.mk [(r : Int), (c : Int)]))
noncomputable def windowsS : Tw.Spec := fun A P _ => ∃ (r c : Nat), A = [vl (r : Int), vl (c : Int)] ∧ r ≤ 6 ∧ c ≤ 6 ∧ P (rn (windows r c))
noncomputable def cutS' : Tw.Spec := fun A P _ => ∃ (p : Pic) (r c t l b q : Nat), A = [vl p, vl (win t l b q)] ∧ Pk p r c ∧ t < b ∧ b ≤ r ∧ l < q ∧ q ≤ c ∧ P (rn (cutOut p t l b q))
theorem flat_len {A B : Type} (xs : List A) (f : A → List B) (n : Nat) (h : ∀ x ∈ xs, (f x).length ≤ n) : (xs.flatMap f).length ≤ xs.length * n := by
  induction xs with
  | nil => simp
  | cons x xs ih =>
    rw [List.flatMap_cons, List.length_append, List.length_cons, Nat.succ_mul]
    have h1 := h x (List.mem_cons_self ..)
    have h2 := ih fun y hy => h y (List.mem_cons_of_mem _ hy)
    omega
theorem wr_len {c t l b : Nat} (hc : c ≤ 6) : (winR c t l b).length ≤ 6 := by unfold winR; simp; omega
theorem wb_len {r c t l : Nat} (k : Nat) (hk : k ≤ 6) (hc : c ≤ 6) : ((List.range k).flatMap fun k => winR c t l (t + 1 + k)).length ≤ 36 := by
  have := flat_len (List.range k) (fun k => winR c t l (t + 1 + k)) 6 fun x _ => wr_len hc
  rw [List.length_range] at this; omega
theorem wl_len {r c t : Nat} (k : Nat) (hk : k ≤ 6) (hr : r ≤ 6) (hc : c ≤ 6) : ((List.range k).flatMap fun l => winB r c t l).length ≤ 216 := by
  have := flat_len (List.range k) (fun l => winB r c t l) 36 fun x _ => wb_len (r := r) (r - t) (by omega) hc
  rw [List.length_range] at this; omega
theorem wn_len {r c : Nat} (k : Nat) (hk : k ≤ 6) (hr : r ≤ 6) (hc : c ≤ 6) : ((List.range k).flatMap fun t => winL r c t).length ≤ 1296 := by
  have := flat_len (List.range k) (fun t => winL r c t) 216 fun x _ => wl_len (r := r) c hc hr hc
  rw [List.length_range] at this; omega
section
variable {P : Program} {w : World} {K : PySem.W.Frag} {mg : Str → Option Value} {base : Heap}
theorem ok_size_of (T : Txt K mg) : Has P w K mg base 1 "size_of" ["picture"] sizeS := by
  refine Has.of T.f_size_of sc_size_of (fun A Q R ⟨p, r, c, e, _⟩ => by rw [e]; rfl) fun f cdv A outer s0 H E hr Γ Q R ⟨p, r, c, e, hp, hq⟩ => ?_
  subst e
  obtain ⟨h0, h1⟩ := hp.head
  have hc6 := hp.c6
  exact st_retV (ev_tupH (es_cons (ev_eq (y := (r : Int)) (ev_len T.b_len (ev_var 0)) (by rw [hp.len])) (es_cons (ev_eq (y := (c : Int)) (ev_lenS T.b_len (ev_ixL (ev_var 0) ev_int h0) (sl6 (by omega))) (by rw [h1])) es_nil))) hq
theorem ok_windows_of (T : Txt K mg) : Has P w K mg base 1 "windows_of" ["rows", "columns"] windowsS := by
  refine Has.of T.f_windows_of sc_windows_of (fun A Q R ⟨r, c, e, _⟩ => by rw [e]; rfl) fun f cdv A outer s0 H E hr Γ Q R ⟨r, c, e, hr6, hc6, hq⟩ => ?_
  subst e
  refine st_setN 2 (en_nil Win) (fun ad => ?_) sc_windows_of.nd
  refine st_for (xs := rng 0 (r : Int).toNat) (fun k Γ => Le Γ [vl (r : Int), vl (c : Int), ls ad ((List.range k).flatMap fun t => winL r c t), .no, .no, .no, .no]) (src_range T.b_range (ev_var 0) (by omega) (by omega)) (tg_name 3) (by walk_at "le")
    (fun t x Γ1 hk1 hP1 => ?_) (fun Γ1 hP1 => ?_) (pgn 3 sc_windows_of.nd)
  rotate_left
  · refine st_le hP1 (st_retL 2 ?_)
    rw [rng_len]
    exact hq
  obtain ⟨ht, rfl⟩ := rng_get0 hk1
  have ht' : t < r := by omega
  refine st_le (Le.set hP1 3 _) ?_
  have n1 := wn_len (r := r) (c := c) t (by omega) hr6 hc6
  generalize hf1 : ((List.range t).flatMap fun t => winL r c t) = f1 at n1
  refine st_for (xs := rng 0 (c : Int).toNat) (fun k Γ => Le Γ [vl (r : Int), vl (c : Int), ls ad (f1 ++ (List.range k).flatMap fun l => winB r c t l), vl (t : Int), .no, .no, .no]) (src_range T.b_range (ev_var 1) (by omega) (by omega)) (tg_name 4) (by
      show Le _ [vl (r : Int), vl (c : Int), ls ad (f1 ++ []), vl (t : Int), .no, .no, .no]
      rw [List.append_nil]; walk_at "le")
    (fun l x Γ2 hk2 hP2 => ?_) (fun Γ2 hP2 => st_nil ?_) (pgn 4 sc_windows_of.nd)
  rotate_left
  · rw [rng_len] at hP2
    refine hP2.trans ?_
    show Le _ [vl (r : Int), vl (c : Int), ls ad ((List.range (t + 1)).flatMap fun t => winL r c t), .no, .no, .no, .no]
    rw [range_flat, hf1]
    unfold winL
    walk_at "le"
  obtain ⟨hl, rfl⟩ := rng_get0 hk2
  have hl' : l < c := by omega
  refine st_le (Le.set hP2 4 _) ?_
  have n2 := wl_len (r := r) (c := c) (t := t) l (by omega) hr6 hc6
  generalize hf2 : ((List.range l).flatMap fun l => winB r c t l) = f2 at n2
  refine st_for (xs := rng ((t : Int) + 1) ((r : Int) + 1 - ((t : Int) + 1)).toNat) (fun k Γ => Le Γ [vl (r : Int), vl (c : Int), ls ad (f1 ++ (f2 ++ (List.range k).flatMap fun k => winR c t l (t + 1 + k))), vl (t : Int), vl (l : Int), .no, .no]) (src_range2 T.b_range (ev_bin o_add (ev_var 3) ev_int) (ev_bin o_add (ev_var 0) ev_int) (by omega)) (tg_name 5) (by
      show Le _ [vl (r : Int), vl (c : Int), ls ad (f1 ++ (f2 ++ [])), vl (t : Int), vl (l : Int), .no, .no]
      rw [List.append_nil]; walk_at "le")
    (fun b x Γ3 hk3 hP3 => ?_) (fun Γ3 hP3 => st_nil ?_) (pgn 5 sc_windows_of.nd)
  rotate_left
  · rw [rng_len] at hP3
    refine hP3.trans ?_
    show Le _ [vl (r : Int), vl (c : Int), ls ad (f1 ++ ((List.range (l + 1)).flatMap fun l => winB r c t l)), vl (t : Int), .no, .no, .no]
    rw [range_flat, hf2]
    unfold winB
    rw [show ((r : Int) + 1 - ((t : Int) + 1)).toNat = r - t by omega]
    walk_at "le"
  obtain ⟨hb, rfl⟩ := rng_get hk3
  refine st_le (Le.set hP3 5 _) ?_
  have n3 := wb_len (r := r) (c := c) (t := t) (l := l) b (by omega) hc6
  generalize hf3 : ((List.range b).flatMap fun k => winR c t l (t + 1 + k)) = f3 at n3
  refine st_for (xs := rng ((l : Int) + 1) ((c : Int) + 1 - ((l : Int) + 1)).toNat) (fun k Γ => Le Γ [vl (r : Int), vl (c : Int), ls ad (f1 ++ (f2 ++ (f3 ++ (List.range k).map fun k => win t l (t + 1 + b) (l + 1 + k)))), vl (t : Int), vl (l : Int), vl ((t : Int) + 1 + (b : Int)), .no]) (src_range2 T.b_range (ev_bin o_add (ev_var 4) ev_int) (ev_bin o_add (ev_var 1) ev_int) (by omega)) (tg_name 6) (by
      show Le _ [vl (r : Int), vl (c : Int), ls ad (f1 ++ (f2 ++ (f3 ++ []))), vl (t : Int), vl (l : Int), vl ((t : Int) + 1 + (b : Int)), .no]
      rw [List.append_nil]; walk_at "le")
    (fun q x Γ4 hk4 hP4 => ?_) (fun Γ4 hP4 => st_nil ?_) (pgn 6 sc_windows_of.nd)
  rotate_left
  · rw [rng_len] at hP4
    refine hP4.trans ?_
    show Le _ [vl (r : Int), vl (c : Int), ls ad (f1 ++ (f2 ++ ((List.range (b + 1)).flatMap fun k => winR c t l (t + 1 + k)))), vl (t : Int), vl (l : Int), .no, .no]
    rw [range_flat, hf3]
    unfold winR
    rw [show ((c : Int) + 1 - ((l : Int) + 1)).toNat = c - l by omega]
    walk_at "le"
  obtain ⟨hq', rfl⟩ := rng_get hk4
  refine st_le (Le.set hP4 6 _) ?_
  refine st_append 2 (ev_tupH (es_cons (ev_var 3) (es_cons (ev_var 4) (es_cons (ev_var 5) (es_cons (ev_var 6) es_nil))))) (st_nil ?_) ?_
  · show Le _ [vl (r : Int), vl (c : Int), ls ad (f1 ++ (f2 ++ (f3 ++ (List.range (q + 1)).map fun k => win t l (t + 1 + b) (l + 1 + k)))), vl (t : Int), vl (l : Int), vl ((t : Int) + 1 + (b : Int)), .no]
    have ew : win t l (t + 1 + b) (l + 1 + q) = (⟨[(t : Int), (l : Int), (t : Int) + 1 + (b : Int), (l : Int) + 1 + (q : Int)]⟩ : Win) := by
      unfold win
      congr 1
    rw [List.range_succ, List.map_append, List.map_singleton, ew]
    simp only [← List.append_assoc]
    walk_at "le"
  · refine Nat.lt_of_le_of_lt ?_ (show 2000 < sizeLine by decide)
    simp only [List.length_append, List.length_map, List.length_range]
    omega
theorem ok_cut_out (T : Txt K mg) : Has P w K mg base 1 "cut_out" ["picture", "window"] cutS' := by
  refine Has.of T.f_cut_out sc_cut_out (fun A Q R ⟨p, r, c, t, l, b, q, e, _⟩ => by rw [e]; rfl) fun f cdv A outer s0 H E hr Γ Q R ⟨p, r, c, t, l, b, q, e, hp, h1, h2, h3, h4, hq⟩ => ?_
  subst e
  have hc6 := hp.c6
  have hr6 := hp.r6
  refine st_unpack4 2 3 4 5 (ev_var 1) ?_ (pg4 2 3 4 5 sc_cut_out.nd rfl (pgn 2 sc_cut_out.nd) (pgn 3 sc_cut_out.nd) (pgn 4 sc_cut_out.nd) (pgn 5 sc_cut_out.nd))
  have e1 : cutL p (some (t : Int)) (some (b : Int)) = (p.drop t).take (b - t) := cutL_nat (by rw [hp.len]; exact h2) (by omega)
  refine st_retE (en_lc (α := Tx) (β := Tx) (own := [("row", 6)]) (xs := (p.drop t).take (b - t)) (f := fun row => (row.drop l).take (q - l)) (src_list (ev_of_en (en_eq (en_sliceL (o1 := some (t : Int)) (o2 := some (b : Int)) (ev_var 0) (ev_var 2) (ev_var 4)) e1))) (tg_name 6) (fun _ _ _ _ _ => pgn 6 sc_cut_out.nd)
    (fun x hx _ _ _ _ _ => ev_eq (ev_sliceS (o1 := some (l : Int)) (o2 := some (q : Int)) (ev_var 6) (ev_var 3) (ev_var 5) ?_) (cutL_nat ?_ (by omega))) sc_cut_out.nd (ok := bk_cut_out (by decide +kernel)) (hz := ?_)) hq
  · rw [hp.row x (List.mem_of_mem_drop (List.mem_of_mem_take hx))]; exact sl6 hc6
  · rw [hp.row x (List.mem_of_mem_drop (List.mem_of_mem_take hx))]; exact h4
  · rw [List.length_take, List.length_drop, hp.len]; exact sl6 (by omega)
end
theorem ev_tp {X : Cx} {Γ : List Slot} {e : Expr} {α : Type} {i : Rep α} {x y : α} (h : EV X Γ e (Tup.mk [x, y])) : EV X Γ e (x, y) := ev_conv h fun K F v r => by
  obtain ⟨a, vs, rfl, h1, pr⟩ := r
  cases pr with
  | cons r1 t =>
    cases t with
    | cons r2 t => cases t; exact ⟨a, _, _, rfl, h1, r1, r2⟩
noncomputable def cellsOf (p : Pic) : Int := (p.length : Int) * ((p.headD []).length : Int)
theorem Pk.cells {p : Pic} {r c : Nat} (h : Pk p r c) : cellsOf p = (r : Int) * (c : Int) := by
  unfold cellsOf
  rw [h.len, h.head.2]
noncomputable def winPic (p : Pic) (x : Win) : Pic := cutOut p (x.l.getD 0 0).toNat (x.l.getD 1 0).toNat (x.l.getD 2 0).toNat (x.l.getD 3 0).toNat
theorem winPic_win (p : Pic) (t l b q : Nat) : winPic p (win t l b q) = cutOut p t l b q := rfl
noncomputable def turns8 (q : Pic) : List Pic := (List.range 8).map fun t => turned q t
noncomputable def seenAll (p : Pic) (r c : Nat) : List Pic := (windows r c).flatMap fun x => turns8 (winPic p x)
noncomputable abbrev kput (F : List (Tup Tx × Pic)) (s : Pic) : List (Tup Tx × Pic) := put F ⟨s⟩ s
noncomputable def keyed (l : List Pic) : List (Tup Tx × Pic) := l.foldl kput []
theorem keyed_snoc (l : List Pic) (s : Pic) : keyed (l ++ [s]) = put (keyed l) ⟨s⟩ s := by unfold keyed; rw [List.foldl_append]; rfl
theorem keyed_len (l : List Pic) : (keyed l).length ≤ l.length := by
  have go : ∀ (l : List Pic) (F : List (Tup Tx × Pic)), (l.foldl kput F).length ≤ F.length + l.length := fun l => by
    induction l with
    | nil => intro F; simp
    | cons s l ih =>
      intro F
      have h1 := ih (kput F s)
      have h2 : (kput F s).length ≤ F.length + 1 := put_len F (⟨s⟩ : Tup Tx) s
      rw [List.foldl_cons, List.length_cons]
      omega
  have := go l []
  rw [List.length_nil, Nat.zero_add] at this
  exact this
structure KeyedOk (l : List Pic) (F : List (Tup Tx × Pic)) : Prop where
  nd : (F.map (·.1)).Nodup
  key : ∀ x ∈ F, x.1.l = x.2
  mem : ∀ s : Pic, s ∈ F.map (·.2) ↔ s ∈ l
theorem put_mem {κ α : Type} [DecidableEq κ] {l : List (κ × α)} {k : κ} {v : α} {x : κ × α} (h : x ∈ put l k v) : x = (k, v) ∨ x ∈ l := by
  unfold put at h
  split at h
  · obtain ⟨y, hy, e⟩ := List.mem_map.mp h
    by_cases hk : y.1 = k
    · rw [if_pos hk] at e
      exact .inl (by rw [← e, hk])
    · rw [if_neg hk] at e
      exact .inr (e ▸ hy)
  · rcases List.mem_append.mp h with h | h
    · exact .inr h
    · exact .inl (List.mem_singleton.mp h)
theorem keyed_ok (l : List Pic) : KeyedOk l (keyed l) := by
  have go : ∀ (l m : List Pic) (F : List (Tup Tx × Pic)), KeyedOk m F → KeyedOk (m ++ l) (l.foldl kput F) := fun l => by
    induction l with
    | nil => intro m F h; rw [List.append_nil]; exact h
    | cons s l ih =>
      intro m F h
      rw [show m ++ s :: l = (m ++ [s]) ++ l by simp]
      refine ih (m ++ [s]) _ ⟨put_nodup h.nd, fun x hx => ?_, fun z => ?_⟩
      · rcases put_mem hx with rfl | hx
        · rfl
        · exact h.key x hx
      · have hin : ∀ x ∈ F, x ∈ put F (⟨s⟩ : Tup Tx) s := fun x hx => by
          have hl : look F x.1 = some x.2 := look_of_mem h.nd hx
          refine look_mem (k := x.1) (v := x.2) ?_
          rw [look_put]
          by_cases hk : x.1 = ⟨s⟩
          · have := h.key x hx
            rw [hk] at this
            rw [if_pos hk]; exact congrArg some this
          · rw [if_neg hk]; exact hl
        constructor
        · intro hz
          obtain ⟨x, hx, rfl⟩ := List.mem_map.mp hz
          rcases put_mem hx with rfl | hx
          · simp
          · exact List.mem_append_left _ ((h.mem x.2).mp (List.mem_map.mpr ⟨x, hx, rfl⟩))
        · intro hz
          rcases List.mem_append.mp hz with hz | hz
          · obtain ⟨x, hx, rfl⟩ := List.mem_map.mp ((h.mem z).mpr hz)
            exact List.mem_map.mpr ⟨x, hin x hx, rfl⟩
          · obtain rfl := List.mem_singleton.mp hz
            exact List.mem_map.mpr ⟨(⟨z⟩, z), look_mem (by rw [look_put, if_pos rfl]), rfl⟩
  have := go l [] [] ⟨List.nodup_nil, fun _ h => (List.not_mem_nil h).elim, fun _ => by simp⟩
  rw [List.nil_append] at this
  exact this
noncomputable abbrev repPic : Rep Pic := repList
noncomputable abbrev kSeen (x : Pic) : Int × Pic := (cellsOf x, x)
noncomputable def seenL (p : Pic) (r c : Nat) : List Pic := ((keyed (seenAll p r c)).map (·.2)).mergeSort (PySem.W.dataLe false fun x => ((IsD.d (kSeen x) : Dy)).py)
theorem seenL_perm (p : Pic) (r c : Nat) : (seenL p r c).Perm ((keyed (seenAll p r c)).map (·.2)) := List.mergeSort_perm _ _
theorem seenL_mem {p : Pic} {r c : Nat} {s : Pic} : s ∈ seenL p r c ↔ s ∈ seenAll p r c := (seenL_perm p r c).mem_iff.trans ((keyed_ok _).mem s)
theorem seenAll_mem {p : Pic} {r c : Nat} {s : Pic} : s ∈ seenAll p r c ↔ ∃ x ∈ windows r c, ∃ t < 8, s = turned (winPic p x) t := by
  unfold seenAll turns8
  constructor
  · intro h
    obtain ⟨x, hx, h⟩ := List.mem_flatMap.mp h
    obtain ⟨t, ht, rfl⟩ := List.mem_map.mp h
    exact ⟨x, hx, t, List.mem_range.mp ht, rfl⟩
  · rintro ⟨x, hx, t, ht, rfl⟩
    exact List.mem_flatMap.mpr ⟨x, hx, List.mem_map.mpr ⟨t, List.mem_range.mpr ht, rfl⟩⟩
theorem seen_pk {p : Pic} {r c : Nat} (hp : Pk p r c) {s : Pic} (h : s ∈ seenAll p r c) : ∃ r' c', Pk s r' c' := by
  obtain ⟨x, hx, t, _, rfl⟩ := seenAll_mem.mp h
  obtain ⟨t', l, b, q, rfl, h1, h2, h3, h4⟩ := mem_windows hx
  exact ⟨_, _, (hp.cut h1 h2 h3 h4).turned t⟩
theorem seenAll_len {p : Pic} {r c : Nat} (hr : r ≤ 6) (hc : c ≤ 6) : (seenAll p r c).length ≤ 10368 := by
  unfold seenAll
  have h1 := flat_len (windows r c) (fun x => turns8 (winPic p x)) 8 fun x _ => by unfold turns8; simp
  have h2 := wn_len (r := r) (c := c) r hr hr hc
  have h3 : (windows r c).length ≤ 1296 := h2
  omega
theorem alike_strs : ∀ xs ys : List Tx, PySem.W.alikeAll (Dy.pys (xs.map Dy.s)) (Dy.pys (ys.map Dy.s)) = true
  | [], _ => by simp [Dy.pys, PySem.W.alikeAll]
  | _ :: _, [] => by simp [Dy.pys, PySem.W.alikeAll]
  | x :: xs, y :: ys => by
    show PySem.W.alikeAll (.str (sx x) :: Dy.pys (xs.map Dy.s)) (.str (sx y) :: Dy.pys (ys.map Dy.s)) = true
    rw [PySem.W.alikeAll, alike_strs xs ys]
    simp [PySem.W.alike]
theorem depth_strs : ∀ xs : List Tx, PyData.depthAll (Dy.pys (xs.map Dy.s)) = 0
  | [] => by simp [Dy.pys, PyData.depthAll]
  | x :: xs => by
    show PyData.depthAll (.str (sx x) :: Dy.pys (xs.map Dy.s)) = 0
    rw [PyData.depthAll, depth_strs xs]
    simp [PyData.depth]
theorem kSeen_py (x : Pic) : (IsD.d (kSeen x) : Dy).py = .tuple [.int (cellsOf x), .list (Dy.pys (x.map Dy.s))] := by
  show Dy.py (.t [.i (cellsOf x), .l (x.map Dy.s)]) = _
  rw [Dy.py, Dy.pys, Dy.pys, Dy.pys, Dy.py, Dy.py]
theorem kSeen_alike (l : List Pic) : PySem.W.AllAlike (l.map fun x => (IsD.d (kSeen x) : Dy).py) := PySem.W.AllAlike.of fun x y => by
  rw [kSeen_py, kSeen_py, PySem.W.alike, PySem.W.alikeAll, PySem.W.alikeAll, PySem.W.alikeAll, PySem.W.alike, PySem.W.alike, alike_strs]
  rfl
theorem kSeen_sortable (l : List Pic) : PySem.W.Sortable (l.map fun x => (IsD.d (kSeen x) : Dy).py) := PySem.W.Sortable.tuples fun x => ⟨_, _, kSeen_py x⟩
theorem kSeen_depth (x : Pic) : ((IsD.d (kSeen x) : Dy).py).depth ≤ 64 := by
  rw [kSeen_py, PyData.depth, PyData.depthAll, PyData.depthAll, PyData.depthAll, PyData.depth, PyData.depth, depth_strs]
  decide
noncomputable def manyCS : Tw.Spec := fun A P _ => ∃ (p : Pic) (r c : Nat), A = [vl p] ∧ Pk p r c ∧ P (rv (kSeen p))
noncomputable def cellsInS : Tw.Spec := fun A P _ => ∃ (p : Pic) (r c : Nat), A = [vl p] ∧ Pk p r c ∧ P (rv (cellsOf p))
noncomputable def seenS : Tw.Spec := fun A P _ => ∃ (p : Pic) (r c : Nat), A = [vl p] ∧ Pk p r c ∧ P (rn (seenL p r c))
section
variable {P : Program} {w : World} {K : PySem.W.Frag} {mg : Str → Option Value} {base : Heap}
theorem ok_many_cells (T : Txt K mg) : Has P w K mg base 2 "many_cells" ["picture"] manyCS := by
  refine Has.of T.f_many_cells sc_many_cells (fun A Q R ⟨p, r, c, e, _⟩ => by rw [e]; rfl) fun f cdv A outer s0 H E hr Γ Q R ⟨p, r, c, e, hp, hq⟩ => ?_
  subst e
  have h1 := hp.r6
  have h2 := hp.c6
  refine st_unpack2 1 2 (ev_tp (ev_call (ok_size_of T) (hr.mono (by decide)) (ea_cons (ev_var 0) ea_nil) fun P R h => ⟨_, _, _, rfl, hp, h⟩)) ?_ (pg2 1 2 (pgn 1 sc_many_cells.nd) (pgn 2 sc_many_cells.nd))
  exact st_retV (ev_pair (ev_eq (ev_bin (o_mul (x := (r : Int)) (y := (c : Int)) (mulR (by omega) (by omega))) (ev_var 1) (ev_var 2)) hp.cells.symm) (ev_var 0)) hq
theorem ok_cells_in (T : Txt K mg) : Has P w K mg base 2 "cells_in" ["picture"] cellsInS := by
  refine Has.of T.f_cells_in sc_cells_in (fun A Q R ⟨p, r, c, e, _⟩ => by rw [e]; rfl) fun f cdv A outer s0 H E hr Γ Q R ⟨p, r, c, e, hp, hq⟩ => ?_
  subst e
  have h1 := hp.r6
  have h2 := hp.c6
  refine st_unpack2 1 2 (ev_tp (ev_call (ok_size_of T) (hr.mono (by decide)) (ea_cons (ev_var 0) ea_nil) fun P R h => ⟨_, _, _, rfl, hp, h⟩)) ?_ (pg2 1 2 (pgn 1 sc_cells_in.nd) (pgn 2 sc_cells_in.nd))
  exact st_retV (ev_eq (ev_bin (o_mul (x := (r : Int)) (y := (c : Int)) (mulR (by omega) (by omega))) (ev_var 1) (ev_var 2)) hp.cells.symm) hq
theorem ok_seen_in (T : Txt K mg) : Has P w K mg base 5 "seen_in" ["picture"] seenS := by
  refine Has.of T.f_seen_in sc_seen_in (fun A Q R ⟨p, r, c, e, _⟩ => by rw [e]; rfl) fun f cdv A outer s0 H E hr Γ Q R ⟨p, r, c, e, hp, hq⟩ => ?_
  subst e
  have hr6 := hp.r6
  have hc6 := hp.c6
  refine st_unpack2 1 2 (ev_tp (ev_call (ok_size_of T) (hr.mono (by decide)) (ea_cons (ev_var 0) ea_nil) fun P R h => ⟨_, _, _, rfl, hp, h⟩)) ?_ (pg2 1 2 (pgn 1 sc_seen_in.nd) (pgn 2 sc_seen_in.nd))
  refine st_setD (Tup Tx) repPic 3 (fun ad => ?_) sc_seen_in.nd
  have hW : (windows r c).length ≤ 1296 := wn_len (r := r) (c := c) r hr6 hr6 hc6
  refine st_for (xs := windows r c) (fun k Γ => Le Γ [vl p, vl (r : Int), vl (c : Int), .own (ownD (Tup Tx) repPic ad (keyed (((windows r c).take k).flatMap fun x => turns8 (winPic p x)))), .no, .no, .no, .no])
    (src_list (ev_of_en (en_call (ok_windows_of T) (hr.mono (by decide)) (ea_cons (ev_var 1) (ea_cons (ev_var 2) ea_nil)) fun P R h => ⟨_, _, rfl, hr6, hc6, h⟩))) (tg_name 4) (by
      show Le _ [vl p, vl (r : Int), vl (c : Int), .own (ownD (Tup Tx) repPic ad (keyed [])), .no, .no, .no, .no]
      walk_at "le") (fun k x Γ1 hk hP => ?_) (fun Γ1 hP => ?_) (pgn 4 sc_seen_in.nd)
  · obtain ⟨hlt, ex⟩ := List.getElem?_eq_some_iff.mp hk
    obtain ⟨t', l, b, q, rfl, h1, h2, h3, h4⟩ := mem_windows (ex ▸ List.getElem_mem hlt)
    have hcut := hp.cut h1 h2 h3 h4
    refine st_le (Le.set hP 4 _) ?_
    have el : ((windows r c).take (k + 1)).flatMap (fun x => turns8 (winPic p x)) = ((windows r c).take k).flatMap (fun x => turns8 (winPic p x)) ++ turns8 (winPic p (win t' l b q)) := by
      rw [List.take_succ, hk, List.flatMap_append]
      simp
    have nl : (((windows r c).take k).flatMap (fun x => turns8 (winPic p x))).length ≤ 10368 := by
      have h1 := flat_len ((windows r c).take k) (fun x => turns8 (winPic p x)) 8 fun x _ => by unfold turns8; simp
      have h2 : ((windows r c).take k).length ≤ 1296 := by rw [List.length_take]; omega
      omega
    generalize hf : ((windows r c).take k).flatMap (fun x => turns8 (winPic p x)) = f0 at el nl
    refine st_set 5 (x := cutOut p t' l b q) (ev_of_en (en_call (ok_cut_out T) (hr.mono (by decide)) (ea_cons (ev_var 0) (ea_cons (ev_var 4) ea_nil)) fun P R h => ⟨_, _, _, _, _, _, _, rfl, hp, h1, h2, h3, h4, h⟩)) ?_ sc_seen_in.nd
    refine st_for (xs := rng 0 (8 : Int).toNat) (fun k Γ => Le Γ [vl p, vl (r : Int), vl (c : Int), .own (ownD (Tup Tx) repPic ad (keyed (f0 ++ (List.range k).map fun t => turned (cutOut p t' l b q) t))), vl (win t' l b q), vl (cutOut p t' l b q), .no, .no])
      (src_range T.b_range (ev_eq (y := (8 : Int)) (ev_bin (o_mul (x := 2) (y := 4) mulR) ev_int (ev_gintE T.c_MIRROR)) rfl) (by decide) (by decide)) (tg_name 6) (by
        show Le _ [vl p, vl (r : Int), vl (c : Int), .own (ownD (Tup Tx) repPic ad (keyed (f0 ++ []))), vl (win t' l b q), vl (cutOut p t' l b q), .no, .no]
        rw [List.append_nil]
        walk_at "le") (fun m x Γ2 hk2 hP2 => ?_) (fun Γ2 hP2 => st_nil ?_) (pgn 6 sc_seen_in.nd)
    · obtain ⟨hm, rfl⟩ := rng_get0 hk2
      have hm8 : m < 8 := by simpa using hm
      refine st_le (Le.set hP2 6 _) ?_
      refine st_set 7 (x := turned (cutOut p t' l b q) m) (ev_of_en (en_eq (en_call (ok_turned T) (hr.mono (by decide)) (ea_cons (ev_var 5) (ea_cons (ev_var 6) ea_nil)) fun P R h => ⟨_, _, _, (m : Int), rfl, hcut, by omega, h⟩) (by rw [Int.toNat_natCast]))) ?_ sc_seen_in.nd
      refine st_dput hr 3 (ev_var 7) (ev_tupL T.b_tuple (ev_var 7)) ?_ (st_nil ?_)
      · have := keyed_len (f0 ++ (List.range m).map fun t => turned (cutOut p t' l b q) t)
        rw [List.length_append, List.length_map, List.length_range] at this
        exact Nat.lt_of_le_of_lt (show _ ≤ 20000 by omega) (by decide)
      · show Le _ [vl p, vl (r : Int), vl (c : Int), .own (ownD (Tup Tx) repPic ad (keyed (f0 ++ (List.range (m + 1)).map fun t => turned (cutOut p t' l b q) t))), vl (win t' l b q), vl (cutOut p t' l b q), .no, .no]
        rw [List.range_succ, List.map_append, List.map_singleton, ← List.append_assoc, keyed_snoc]
        walk_at "le"
    · rw [rng_len] at hP2
      refine hP2.trans ?_
      show Le _ [vl p, vl (r : Int), vl (c : Int), .own (ownD (Tup Tx) repPic ad (keyed (((windows r c).take (k + 1)).flatMap fun x => turns8 (winPic p x)))), .no, .no, .no, .no]
      rw [el, winPic_win]
      unfold turns8
      walk_at "le"
  · rw [List.take_length] at hP
    have e1 : ((windows r c).flatMap fun x => turns8 (winPic p x)) = seenAll p r c := rfl
    rw [e1] at hP
    refine st_le hP (st_retE (en_sortedVals 3 (kf := kSeen) T.b_sorted (ok_many_cells T) (hr.mono (by decide)) (fun x hx P' R' h => ?_) (kSeen_alike _) (kSeen_sortable _) (fun x _ => kSeen_depth x)) hq)
    obtain ⟨r', c', h'⟩ := seen_pk hp (((keyed_ok _).mem x).mp hx)
    exact ⟨x, r', c', rfl, h', h⟩
end
noncomputable def shownS : Tw.Spec := fun A P _ => ∃ (p : Pic) (r c : Nat), A = [vl p] ∧ Pk p r c ∧ P (rv (TL.joinL [47] p))
theorem sum_le {n : Nat} : ∀ {p : List Tx}, (∀ x ∈ p, x.length ≤ n) → (p.map (·.length)).sum ≤ p.length * n
  | [], _ => by simp
  | x :: p, h => by
    rw [List.map_cons, List.sum_cons, List.length_cons, Nat.succ_mul]
    have h1 := h x (List.mem_cons_self ..)
    have h2 := sum_le (p := p) fun y hy => h y (List.mem_cons_of_mem _ hy)
    omega
section
variable {P : Program} {w : World} {K : PySem.W.Frag} {mg : Str → Option Value} {base : Heap}
theorem ok_shown (T : Txt K mg) : Has P w K mg base 1 "shown" ["picture"] shownS := by
  refine Has.of T.f_shown sc_shown (fun A Q R ⟨p, r, c, e, _⟩ => by rw [e]; rfl) fun f cdv A outer s0 H E hr Γ Q R ⟨p, r, c, e, hp, hq⟩ => ?_
  subst e
  refine st_retV (ev_join (ev_str "/") (ev_var 0) ?_) hq
  have h1 := sum_le (n := 6) fun x hx => by rw [hp.row x hx]; exact hp.c6
  have h2 := hp.len
  have h3 := hp.r6
  show _ + _ * 1 ≤ _
  omega
end
local macro_rules | `(tactic| walk_at "le") => `(tactic| repeat (first | exact le_nil | refine le_cons ?_ | refine le_no ?_))
noncomputable abbrev Tab := List (T2x × Int)
noncomputable def shw (p : Pic) : Tx := TL.joinL [47] p
noncomputable abbrev Use := List (Pic × Tx)
noncomputable def pairs (s : Bool) (p : Pic) (a b : Tx) (m : Nat) : List Use := (List.range (m - 1)).map fun k => [(partA s p (k + 1), a), (partB s p (k + 1), b)]
noncomputable def usesP (r : RuleD) (p : Pic) : List Use := match r with
  | .cell _ _ s => if p = [s] then [[]] else []
  | .turn _ _ a t => [[(turned p (backN t.toNat), a)]]
  | .beside _ _ a b => pairs true p a b (p.headD []).length
  | .above _ _ a b => pairs false p a b p.length
noncomputable def costAcc (M : Tab) : Int → Use → Option Int
  | t, [] => some t
  | t, x :: us => match look M (shw x.1, x.2) with
    | none => none
    | some v => costAcc M (t + v) us
noncomputable def costByP (M : Tab) (r : RuleD) (use : Use) : Option Int := costAcc M r.cost use
noncomputable def low1 (M : Tab) (key : T2x) : Option Int → Tab × Bool
  | none => (M, false)
  | some c => match look M key with
    | none => (put M key c, true)
    | some v => if c < v then (put M key c, true) else (M, false)
noncomputable def lowS (r : RuleD) (key : T2x) (z : Tab × Bool) (use : Use) : Tab × Bool := ((low1 z.1 key (costByP z.1 r use)).1, z.2 || (low1 z.1 key (costByP z.1 r use)).2)
noncomputable def loweredP (M : Tab) (r : RuleD) (p : Pic) : Tab × Bool := (usesP r p).foldl (lowS r (shw p, r.name)) (M, false)
theorem low1_len (M : Tab) (key : T2x) (o : Option Int) : (low1 M key o).1.length ≤ M.length + 1 := by
  unfold low1
  split
  · exact Nat.le_succ _
  · split
    · exact put_len _ _ _
    · split
      · exact put_len _ _ _
      · exact Nat.le_succ _
theorem lowS_len (r : RuleD) (key : T2x) : ∀ (us : List Use) (z : Tab × Bool), (us.foldl (lowS r key) z).1.length ≤ z.1.length + us.length
  | [], z => Nat.le_refl _
  | u :: us, z => by
    have h1 := lowS_len r key us (lowS r key z u)
    have h2 : (lowS r key z u).1.length ≤ z.1.length + 1 := low1_len _ _ _
    rw [List.foldl_cons, List.length_cons]
    omega
theorem usesP_len (r : RuleD) {p : Pic} {rr c : Nat} (hp : Pk p rr c) : (usesP r p).length ≤ 6 := by
  have h1 := hp.r6
  have h2 := hp.c6
  have h3 := hp.len
  have h4 := hp.head.2
  cases r with
  | cell n k s => simp only [usesP]; split <;> simp
  | turn n k a t => simp [usesP]
  | beside n k a b => simp only [usesP, pairs, List.length_map, List.length_range]; omega
  | above n k a b => simp only [usesP, pairs, List.length_map, List.length_range]; omega
theorem pk_side {p : Pic} {r c : Nat} (hp : Pk p r c) (s : Bool) {n : Nat} (h0 : 0 < n) (h1 : n < if s then c else r) : Pk (partA s p n) (if s then r else n) (if s then n else c) ∧ Pk (partB s p n) (if s then r else r - n) (if s then c - n else c) := by
  have hl := hp.len
  have h6 := hp.r6
  have h7 := hp.c6
  have h8 := hp.r0
  have h9 := hp.c0
  cases s with
  | true =>
    simp only [if_true] at h1 ⊢
    refine ⟨⟨by simp [partA, hl], fun x hx => ?_, h8, h0, h6, by omega⟩, ⟨by simp [partB, hl], fun x hx => ?_, h8, by omega, h6, by omega⟩⟩
    · obtain ⟨y, hy, rfl⟩ := List.mem_map.mp (show x ∈ p.map (List.take n) from hx)
      rw [List.length_take, hp.row y hy]; omega
    · obtain ⟨y, hy, rfl⟩ := List.mem_map.mp (show x ∈ p.map (List.drop n) from hx)
      rw [List.length_drop, hp.row y hy]
  | false =>
    have h1 : n < r := h1
    refine ⟨⟨?_, fun x hx => hp.row x (List.mem_of_mem_take (show x ∈ p.take n from hx)), h0, h9, ?_, h7⟩, ⟨?_, fun x hx => hp.row x (List.mem_of_mem_drop (show x ∈ p.drop n from hx)), ?_, h9, ?_, h7⟩⟩
    · show (p.take n).length = n
      rw [List.length_take]; omega
    · show n ≤ 6
      omega
    · show (p.drop n).length = r - n
      rw [List.length_drop]; omega
    · show 0 < r - n
      omega
    · show r - n ≤ 6
      omega
theorem use_pk {r : RuleD} {p : Pic} {rr c : Nat} (hp : Pk p rr c) {use : Use} (h : use ∈ usesP r p) : ∀ x ∈ use, ∃ r' c', Pk x.1 r' c' := by
  have hl := hp.len
  have hh := hp.head.2
  have two : ∀ (s : Bool) (a b : Tx) (m : Nat), (m = if s then c else rr) → use ∈ pairs s p a b m → ∀ x ∈ use, ∃ r' c', Pk x.1 r' c' := by
    intro s a b m hm h x hx
    obtain ⟨k, hk, rfl⟩ := List.mem_map.mp h
    have hk := List.mem_range.mp hk
    have := pk_side hp s (n := k + 1) (by omega) (by rw [← hm]; omega)
    rcases List.mem_cons.mp hx with rfl | hx
    · exact ⟨_, _, this.1⟩
    · rw [List.mem_singleton.mp hx]
      exact ⟨_, _, this.2⟩
  cases r with
  | cell n k s =>
    intro x hx
    unfold usesP at h
    simp only at h
    split at h
    · rw [List.mem_singleton.mp h] at hx; exact (List.not_mem_nil hx).elim
    · exact (List.not_mem_nil h).elim
  | turn n k a t =>
    intro x hx
    rw [List.mem_singleton.mp (show use ∈ [[(turned p (backN t.toNat), a)]] from h)] at hx
    rw [List.mem_singleton.mp hx]
    exact ⟨_, _, hp.turned _⟩
  | beside n k a b => exact two true a b _ (by rw [hh]; rfl) h
  | above n k a b => exact two false a b _ (by rw [hl]; rfl) h
noncomputable def usesForS : Tw.Spec := fun A P _ => ∃ (r : RuleD) (p : Pic) (rr c : Nat), A = [vl r, vl p] ∧ r.good = true ∧ PicOk p ∧ Pk p rr c ∧ P (rn (usesP r p))
noncomputable def costByS : Tw.Spec := fun A P _ => ∃ (r : RuleD) (use : Use) (M : Tab), A = [vl r, vl use, vl (Dic.mk M : Dic T2x Int)] ∧ (∀ x ∈ use, ∃ r' c', Pk x.1 r' c') ∧ P (rv (costByP M r use))
noncomputable def loweredS : Tw.Spec := fun A P _ => ∃ (ad : Addr) (M : Tab) (r : RuleD) (p : Pic) (rr c : Nat), A = [.own (ownD T2x repInt ad M), vl r, vl p] ∧ r.good = true ∧ PicOk p ∧ Pk p rr c ∧ M.length ≤ 400000 ∧ P (.chg repBool (loweredP M r p).2 [ownD T2x repInt ad (loweredP M r p).1])
noncomputable instance : Flat (Option Int) := ⟨fun {K F F' v x} h => by cases x with
  | none => exact h
  | some y => exact h⟩
section
variable {P : Program} {w : World} {K : PySem.W.Frag} {mg : Str → Option Value} {base : Heap}
theorem ok_uses_for (T : Txt K mg) : Has P w K mg base 3 "uses_for" ["rule", "picture"] usesForS := by
  refine Has.of T.f_uses_for sc_uses_for (fun A Q R ⟨r, p, rr, c, e, _⟩ => by rw [e]; rfl) fun f cdv A outer s0 H E hr Γ Q R ⟨r, p, rr, c, e, hg, ho, hp, hq⟩ => ?_
  subst e
  have hr6 := hp.r6
  have hc6 := hp.c6
  have hr0 := hp.r0
  have hc0 := hp.c0
  have two : ∀ (q : RuleD) (a b : Tx) (s : Bool) (m : Nat), q.good = true → (q.flds.lookup ("one" : Str) = some (vl a)) → (q.flds.lookup ("other" : Str) = some (vl b)) → NoA K q.cls "one" → NoA K q.cls "other" → m = (if s then c else rr) → Q (rn (pairs s p a b m)) →
      Tw.ST (cxOf (L2.CX P w) P w K mg base N_uses_for "uses_for" (defScope s_uses_for) f cdv A outer s0 H E).nox ((defBody s_uses_for).drop 3) [vl q, vl p, vl s, .no, .no, .no, .no] (fin Q) := by
    intro q a b s m hgq h1 h2 n1 n2 hm hQ
    have hm6 : m ≤ 6 := by rw [hm]; split <;> omega
    have hm0 : 0 < m := by rw [hm]; split <;> omega
    refine st_setN 3 (en_nil Use) (fun ad => ?_) sc_uses_for.nd
    refine st_for (xs := rng 1 ((m : Int) - 1).toNat) (fun k Γ => Le Γ [vl q, vl p, vl s, ls ad ((List.range k).map fun k => ([(partA s p (k + 1), a), (partB s p (k + 1), b)] : Use)), .no, .no, .no])
      (src_range2 T.b_range ev_int (ev_ixT (xs := Tup.mk [(rr : Int), (c : Int)]) (x := (m : Int)) (ev_call (ok_size_of T) (hr.mono (by decide)) (ea_cons (ev_var 1) ea_nil) fun P R h => ⟨_, _, _, rfl, hp, h⟩) (ev_intB T.b_int (ev_var 2)) ?_) (by omega)) (tg_name 4) Le.refl (fun k x Γ1 hk hP => ?_) (fun Γ1 hP => ?_) (pgn 4 sc_uses_for.nd)
    · rw [hm]
      cases s with
      | true => exact atI_nat (j := 1) rfl
      | false => exact atI_nat (j := 0) rfl
    · obtain ⟨hlt, rfl⟩ := rng_get hk
      have hn : (1 : Int) + (k : Int) = ((k + 1 : Nat) : Int) := by omega
      rw [hn]
      have hk6 : k + 1 < m := by omega
      refine st_le (Le.set hP 4 _) ?_
      refine st_unpackP 5 6 (i := repTx) (j := repTx) (G := fun xs ys => xs = partA s p (k + 1) ∧ ys = partB s p (k + 1)) (P0 := OwnP repTx repTx (partA s p (k + 1)) (partB s p (k + 1))) (by decide) (ex_call (ok_parted T) (hr.mono (by decide)) (ea_cons (ev_var 1) (ea_cons (ev_var 2) (ea_cons (ev_var 4) ea_nil))) fun P' R' h => ⟨p, s, k + 1, rr, c, rfl, hp, h _ rfl⟩)
        (fun o ⟨x, l, m', ho⟩ => ⟨x, l, m', _, _, ⟨rfl, rfl⟩, ho⟩) (fun l m' xs ys hxy => ?_) (pg2 5 6 (pgn 5 sc_uses_for.nd) (pgn 6 sc_uses_for.nd))
      obtain ⟨rfl, rfl⟩ := hxy
      refine st_freeze 5 (frozL (i := repTx)) (st_freeze 6 (frozL (i := repTx)) ?_)
      refine st_append 3 (x := ([(partA s p (k + 1), a), (partB s p (k + 1), b)] : Use)) (ev_of_en (en_lst (es_cons (ev_pair (ev_var 5) (ev_fld (y := a) (o_cls T q) n1 rfl h1 (ev_var 0))) (es_cons (ev_pair (ev_var 6) (ev_fld (y := b) (o_cls T q) n2 rfl h2 (ev_var 0))) es_nil)))) (st_nil ?_) ?_
      · show Le _ [vl q, vl p, vl s, ls ad ((List.range (k + 1)).map fun k => ([(partA s p (k + 1), a), (partB s p (k + 1), b)] : Use)), .no, .no, .no]
        rw [List.range_succ, List.map_append, List.map_singleton]
        walk_at "le"
      · rw [List.length_map, List.length_range]
        exact Nat.lt_of_le_of_lt (show k ≤ 6 by omega) (by decide)
    · rw [rng_len] at hP
      refine st_le hP (st_retL 3 ?_)
      have e : ((m : Int) - 1).toNat = m - 1 := by omega
      rw [e]
      exact hQ
  cases r with
  | cell n k s =>
    have hs : PicOk [s] := fun x hx => by
      rw [List.mem_singleton.mp hx]
      intro y hy
      have hg' : (signOk s && (costOk k && isName n)) = true := hg
      unfold signOk at hg'
      simp only [Bool.and_eq_true, List.all_eq_true, decide_eq_true_eq] at hg'
      have := small_lt y (hg'.1.2 y hy)
      omega
    refine st_if (k := true) (et_val (ev_isiI T.b_isinstance T.o_CellRule T.o_CellRule T.u_CellRule_CellRule rfl (ev_var 0))) (fun _ => ?_) (fun h => nomatch h)
    refine st_if (et_cmp (o_eqD hr ho hs) (ev_var 1) (ev_of_en (en_lst (es_cons (ev_fld (y := s) T.o_CellRule T.a_CellRule_sign rfl rfl (ev_var 0)) es_nil)))) (fun h => ?_) (fun h => st_nil ?_)
    · have h := of_decide_eq_true h
      refine st_retE (en_lst (es_cons (ev_of_en (en_nil (Pic × Tx))) es_nil)) ?_
      have : usesP (.cell n k s) p = [[]] := if_pos h
      rw [this] at hq
      exact hq
    · have h := of_decide_eq_false h
      refine st_retE (en_nil Use) ?_
      have : usesP (.cell n k s) p = [] := if_neg h
      rw [this] at hq
      exact hq
  | turn n k a t =>
    have ht : 0 ≤ t ∧ t ≤ 7 := by
      have hg' : ((decide (0 ≤ t) && decide (t ≤ 7)) && ((costOk k && isName n) && isName a)) = true := hg
      simp only [Bool.and_eq_true, decide_eq_true_eq] at hg'
      exact hg'.1
    refine st_if (k := false) (et_val (ev_isiI T.b_isinstance T.o_TurnRule T.o_CellRule T.u_TurnRule_CellRule rfl (ev_var 0))) (fun h => nomatch h) (fun _ => st_nil ?_)
    refine st_if (k := true) (et_val (ev_isiI T.b_isinstance T.o_TurnRule T.o_TurnRule T.u_TurnRule_TurnRule rfl (ev_var 0))) (fun _ => ?_) (fun h => nomatch h)
    refine st_retE (en_lst (es_cons (ev_of_en (en_lst (es_cons (ev_pair (ev_of_en (en_eq (en_call (ok_turned T) (hr.mono (by decide)) (ea_cons (ev_var 1) (ea_cons (ev_call (ok_back T) (hr.mono (by decide)) (ea_cons (ev_eq (y := ((t.toNat : Nat) : Int)) (ev_fld (y := t) T.o_TurnRule T.a_TurnRule_turning rfl rfl (ev_var 0)) (by omega)) ea_nil) fun P R h => ⟨t.toNat, rfl, h⟩) ea_nil)) fun P R h => ⟨p, _, _, ((backN t.toNat : Nat) : Int), rfl, hp, by omega, h⟩) (by rw [Int.toNat_natCast]))) (ev_fld (y := a) T.o_TurnRule T.a_TurnRule_part rfl rfl (ev_var 0))) es_nil))) es_nil)) hq
  | beside n k a b =>
    refine st_if (k := false) (et_val (ev_isiI T.b_isinstance T.o_BesideRule T.o_CellRule T.u_BesideRule_CellRule rfl (ev_var 0))) (fun h => nomatch h) (fun _ => st_nil ?_)
    refine st_if (k := false) (et_val (ev_isiI T.b_isinstance T.o_BesideRule T.o_TurnRule T.u_BesideRule_TurnRule rfl (ev_var 0))) (fun h => nomatch h) (fun _ => st_nil ?_)
    refine st_set 2 (x := true) (ev_isiI T.b_isinstance T.o_BesideRule T.o_BesideRule T.u_BesideRule_BesideRule rfl (ev_var 0)) ?_ sc_uses_for.nd
    exact two _ a b true (p.headD []).length hg rfl rfl T.a_BesideRule_one T.a_BesideRule_other (by rw [hp.head.2]; rfl) hq
  | above n k a b =>
    refine st_if (k := false) (et_val (ev_isiI T.b_isinstance T.o_AboveRule T.o_CellRule T.u_AboveRule_CellRule rfl (ev_var 0))) (fun h => nomatch h) (fun _ => st_nil ?_)
    refine st_if (k := false) (et_val (ev_isiI T.b_isinstance T.o_AboveRule T.o_TurnRule T.u_AboveRule_TurnRule rfl (ev_var 0))) (fun h => nomatch h) (fun _ => st_nil ?_)
    refine st_set 2 (x := false) (ev_isiI T.b_isinstance T.o_AboveRule T.o_BesideRule T.u_AboveRule_BesideRule rfl (ev_var 0)) ?_ sc_uses_for.nd
    exact two _ a b false p.length hg rfl rfl T.a_AboveRule_one T.a_AboveRule_other (by rw [hp.len]; rfl) hq
theorem ok_cost_by (T : Txt K mg) : Has P w K mg base 2 "cost_by" ["rule", "use", "told"] costByS := by
  refine Has.of T.f_cost_by sc_cost_by (fun A Q R ⟨r, use, T0, e, _⟩ => by rw [e]; rfl) fun f cdv A outer s0 H E hr Γ Q R ⟨r, use, T0, e, hu, hq⟩ => ?_
  subst e
  refine st_set 3 (ev_fld (y := r.cost) (o_cls T r) (a_cost T r) rfl r.f_cost (ev_var 0)) ?_ sc_cost_by.nd
  refine st_for (xs := use) (fun k Γ => ∃ t : Int, costByP T0 r use = costAcc T0 t (use.drop k) ∧ Le Γ [vl r, vl use, vl (Dic.mk T0 : Dic T2x Int), vl t, .no, .no]) (src_list (ev_var 1)) (tg_pair 4 5 (by decide)) ⟨r.cost, rfl, Le.refl⟩ (fun k x Γ1 hk ⟨t, ht, hP⟩ => ?_) (fun Γ1 ⟨t, ht, hP⟩ => ?_) (pg2 4 5 (pgn 4 sc_cost_by.nd) (pgn 5 sc_cost_by.nd))
  · refine st_le ((hP.set 4 _).set 5 _) ?_
    obtain ⟨hlt, ex⟩ := List.getElem?_eq_some_iff.mp hk
    obtain ⟨r', c', hx⟩ := hu x (ex ▸ List.getElem_mem hlt)
    rw [List.drop_eq_getElem_cons hlt, ex] at ht
    cases hl : look T0 (shw x.1, x.2) with
    | none =>
      refine st_if (k := true) (et_eq (et_dnotin hr (x := ((shw x.1, x.2) : T2x)) (ev_pair (ev_call (ok_shown T) (hr.mono (by decide)) (ea_cons (ev_var 4) ea_nil) fun P R h => ⟨_, _, _, rfl, hx, h⟩) (ev_var 5)) (ev_var 2)) (by rw [hl]; rfl)) (fun _ => ?_) (fun h => nomatch h)
      refine st_retV (x := (none : Option Int)) (ev_conv (x := ()) (y := (none : Option Int)) ev_non fun _ _ _ r => r) ?_
      have : costByP T0 r use = none := by rw [ht]; simp only [costAcc, hl]
      rw [this] at hq
      exact hq
    | some v =>
      refine st_if (k := false) (et_eq (et_dnotin hr (x := ((shw x.1, x.2) : T2x)) (ev_pair (ev_call (ok_shown T) (hr.mono (by decide)) (ea_cons (ev_var 4) ea_nil) fun P R h => ⟨_, _, _, rfl, hx, h⟩) (ev_var 5)) (ev_var 2)) (by rw [hl]; rfl)) (fun h => nomatch h) (fun _ => st_nil ?_)
      refine st_set 3 (ev_bin o_add (ev_var 3) (ev_dget hr (x := ((shw x.1, x.2) : T2x)) (y := v) (ev_var 2) (ev_pair (ev_call (ok_shown T) (hr.mono (by decide)) (ea_cons (ev_var 4) ea_nil) fun P R h => ⟨_, _, _, rfl, hx, h⟩) (ev_var 5)) hl)) (st_nil ⟨t + v, ?_, ?_⟩) sc_cost_by.nd
      · rw [ht]; simp only [costAcc, hl]
      · walk_at "le"
  · refine st_le hP (st_retV (x := (some t : Option Int)) (ev_conv (x := (t : Int)) (y := (some t : Option Int)) (ev_var 3) fun _ _ _ r => r) ?_)
    have : costByP T0 r use = some t := by rw [ht, List.drop_length]; rfl
    rw [this] at hq
    exact hq
theorem ok_lowered (T : Txt K mg) : Has P w K mg base 4 "lowered" ["told", "rule", "picture"] loweredS := by
  refine Has.of T.f_lowered sc_lowered (fun A Q R ⟨ad, T0, r, p, rr, c, e, _⟩ => by rw [e]; rfl) fun f cdv A outer s0 H E hr Γ Q R ⟨ad, T0, r, p, rr, c, e, hg, ho, hp, hT, hq⟩ => ?_
  subst e
  refine st_set 3 ev_bl ?_ sc_lowered.nd
  refine st_set 4 (x := ((shw p, r.name) : T2x)) (ev_pair (ev_call (ok_shown T) (hr.mono (by decide)) (ea_cons (ev_var 2) ea_nil) fun P R h => ⟨_, _, _, rfl, hp, h⟩) (ev_fld (y := r.name) (o_cls T r) (a_name T r) rfl r.f_name (ev_var 1))) ?_ sc_lowered.nd
  refine st_for (xs := usesP r p) (fun k Γ => Le Γ [.own (ownD T2x repInt ad (((usesP r p).take k).foldl (lowS r (shw p, r.name)) (T0, false)).1), vl r, vl p, vl (((usesP r p).take k).foldl (lowS r (shw p, r.name)) (T0, false)).2, vl ((shw p, r.name) : T2x), .no, .no])
    (src_list (ev_of_en (en_call (ok_uses_for T) (hr.mono (by decide)) (ea_cons (ev_var 1) (ea_cons (ev_var 2) ea_nil)) fun P R h => ⟨_, _, _, _, rfl, hg, ho, hp, h⟩))) (tg_name 5) (by walk_at "le") (fun k use Γ1 hk hP => ?_) (fun Γ1 hP => ?_) (pgn 5 sc_lowered.nd)
  · refine st_le (hP.set 5 _) ?_
    obtain ⟨hlt, ex⟩ := List.getElem?_eq_some_iff.mp hk
    have hl0 := lowS_len r (shw p, r.name) ((usesP r p).take k) (T0, false)
    have hu6 := usesP_len r hp
    rw [List.length_take] at hl0
    have hnext : ((usesP r p).take (k + 1)).foldl (lowS r (shw p, r.name)) (T0, false) = lowS r (shw p, r.name) (((usesP r p).take k).foldl (lowS r (shw p, r.name)) (T0, false)) use := by
      rw [List.take_succ, hk, List.foldl_append]; rfl
    generalize hz : ((usesP r p).take k).foldl (lowS r (shw p, r.name)) (T0, false) = z at hl0 hnext
    obtain ⟨T1, b1⟩ := z
    have hl1 : T1.length < sizeLine := Nat.lt_of_le_of_lt (show T1.length ≤ 500000 by have : T1.length ≤ T0.length + min k (usesP r p).length := hl0; omega) (by decide)
    refine st_set 6 (x := costByP T1 r use) (ev_lendO 0 frozD (ev_call (ok_cost_by T) (hr.mono (by decide)) (ea_cons (ev_var 1) (ea_cons (ev_var 5) (ea_cons (ev_var 0) ea_nil))) fun P R h => ⟨r, use, T1, rfl, use_pk hp (ex ▸ List.getElem_mem hlt), h⟩)) ?_ sc_lowered.nd
    have fin' : ∀ (T2 : Tab) (b2 : Bool) (Γ' : List Slot), lowS r (shw p, r.name) (T1, b1) use = (T2, b2) → Le Γ' [.own (ownD T2x repInt ad T2), vl r, vl p, vl b2, vl ((shw p, r.name) : T2x), .no, .no] → Le Γ' [.own (ownD T2x repInt ad (((usesP r p).take (k + 1)).foldl (lowS r (shw p, r.name)) (T0, false)).1), vl r, vl p, vl (((usesP r p).take (k + 1)).foldl (lowS r (shw p, r.name)) (T0, false)).2, vl ((shw p, r.name) : T2x), .no, .no] := by
      intro T2 b2 Γ' h1 h2
      rw [hnext, h1]
      exact h2
    have stay : low1 T1 (shw p, r.name) (costByP T1 r use) = (T1, false) → lowS r (shw p, r.name) (T1, b1) use = (T1, b1) := fun h => by
      unfold lowS
      rw [h, Bool.or_false]
    have chg : ∀ c', low1 T1 (shw p, r.name) (costByP T1 r use) = (put T1 (shw p, r.name) c', true) → lowS r (shw p, r.name) (T1, b1) use = (put T1 (shw p, r.name) c', true) := fun c' h => by
      unfold lowS
      rw [h, Bool.or_true]
    cases hc : costByP T1 r use with
    | none =>
      rw [hc] at stay
      refine st_if (k := false) (et_eq (et_and (k := false) (m := false) (et_cmp (o_notO (x := (none : Option Int))) (ev_var 6) ev_non) (fun h => nomatch h)) rfl) (fun h => nomatch h) (fun _ => st_nil (st_nil (fin' _ _ _ (stay rfl) ?_)))
      walk_at "le"
    | some v =>
      rw [hc] at stay chg
      cases hl : look T1 (shw p, r.name) with
      | none =>
        refine st_if (k := true) (et_eq (et_and (k := true) (m := true) (et_cmp (o_notO (x := (some v : Option Int))) (ev_var 6) ev_non) (fun _ => et_or (k := true) (m := true) (et_lendO 0 frozD (et_eq (et_dnotin hr (x := ((shw p, r.name) : T2x)) (ev_var 4) (ev_var 0)) (by rw [hl]; rfl))) (fun h => nomatch h))) rfl) (fun _ => ?_) (fun h => nomatch h)
        refine st_dput hr 0 (y := v) (ev_un (ev_var 6)) (ev_var 4) hl1 (st_set 3 ev_bl (st_nil (st_nil (fin' _ _ _ (chg v (by simp only [low1, hl])) ?_))) sc_lowered.nd)
        walk_at "le"
      | some u =>
        refine st_if (k := decide (v < u)) (et_eq (et_and (k := true) (m := decide (v < u)) (et_cmp (o_notO (x := (some v : Option Int))) (ev_var 6) ev_non) (fun _ => et_eq (et_or (k := false) (m := decide (v < u)) (et_lendO 0 frozD (et_eq (et_dnotin hr (x := ((shw p, r.name) : T2x)) (ev_var 4) (ev_var 0)) (by rw [hl]; rfl))) (fun _ => et_lendO 0 frozD (et_cmp o_lt (ev_un (ev_var 6)) (ev_dget hr (x := ((shw p, r.name) : T2x)) (y := u) (ev_var 0) (ev_var 4) hl)))) (Bool.false_or _))) (Bool.true_and _)) (fun h => ?_) (fun h => st_nil (st_nil (fin' _ _ _ (stay ?_) ?_)))
        · have h := of_decide_eq_true h
          refine st_dput hr 0 (y := v) (ev_un (ev_var 6)) (ev_var 4) hl1 (st_set 3 ev_bl (st_nil (st_nil (fin' _ _ _ (chg v (by simp only [low1, hl, if_pos h])) ?_))) sc_lowered.nd)
          walk_at "le"
        · have h := of_decide_eq_false h
          simp only [low1, hl, if_neg h]
        · walk_at "le"
  · rw [List.take_length] at hP
    exact st_le hP (st_retC 0 (ev_var 3) hq)
end
local macro_rules | `(tactic| walk_at "le") => `(tactic| repeat (first | exact le_nil | refine le_cons ?_ | refine le_no ?_))
theorem nodup_leB {A : Type} [DecidableEq A] {l : List A} : ∀ {m : List A}, l.Nodup → (∀ x ∈ l, x ∈ m) → l.length ≤ m.length := by
  induction l with
  | nil => intro m _ _; exact Nat.zero_le _
  | cons x l ih =>
    intro m nd sub
    rw [List.nodup_cons] at nd
    have hx := sub x (List.mem_cons_self ..)
    have h1 := ih (m := m.erase x) nd.2 fun y hy => (List.mem_erase_of_ne fun (e : y = x) => nd.1 (e ▸ hy)).mpr (sub y (List.mem_cons_of_mem _ hy))
    rw [List.length_erase_of_mem hx] at h1
    have := List.length_pos_of_mem hx
    rw [List.length_cons]
    omega
structure TabOk (K : List T2x) (M : Tab) : Prop where
  nd : (M.map (·.1)).Nodup
  sub : ∀ k ∈ M.map (·.1), k ∈ K
  pos : ∀ x ∈ M, 1 ≤ x.2
theorem TabOk.len {K : List T2x} {M : Tab} (h : TabOk K M) : M.length ≤ K.length := by
  have := nodup_leB h.nd h.sub
  rwa [List.length_map] at this
theorem TabOk.nil {K : List T2x} : TabOk K [] := ⟨List.nodup_nil, fun _ h => (List.not_mem_nil h).elim, fun _ h => (List.not_mem_nil h).elim⟩
theorem TabOk.put {K : List T2x} {M : Tab} (h : TabOk K M) {k : T2x} {v : Int} (hk : k ∈ K) (hv : 1 ≤ v) : TabOk K (put M k v) := by
  refine ⟨put_nodup h.nd, fun j hj => ?_, fun x hx => ?_⟩
  · obtain ⟨y, hy, rfl⟩ := List.mem_map.mp hj
    rcases put_mem hy with rfl | hy
    · exact hk
    · exact h.sub _ (List.mem_map.mpr ⟨y, hy, rfl⟩)
  · rcases put_mem hx with rfl | hx
    · exact hv
    · exact h.pos x hx
theorem look_pos1 {K : List T2x} {M : Tab} (h : TabOk K M) {k : T2x} {v : Int} (hl : look M k = some v) : 1 ≤ v := h.pos _ (look_mem hl)
theorem costAcc_pos {K : List T2x} {M : Tab} (h : TabOk K M) : ∀ (use : Use) (t c : Int), costAcc M t use = some c → t ≤ c
  | [], t, c, e => by
    simp only [costAcc, Option.some.injEq] at e
    omega
  | x :: us, t, c, e => by
    simp only [costAcc] at e
    split at e
    · cases e
    · rename_i v hl
      have h1 := costAcc_pos h us _ _ e
      have h2 := look_pos1 h hl
      omega
noncomputable def sumT (M : Tab) : Nat := (M.map fun x => x.2.toNat).sum
theorem sumT_put {k : T2x} {c v : Int} : ∀ {M : Tab}, (M.map (·.1)).Nodup → look M k = some v → sumT (put M k c) + v.toNat = sumT M + c.toNat
  | [], _, h => by cases h
  | x :: M, nd, h => by
    have e : ((x :: M).any fun p => decide (p.1 = k)) = true := by rw [look_any, h]; rfl
    unfold put
    rw [if_pos e, List.map_cons]
    rw [List.map_cons, List.nodup_cons] at nd
    by_cases hk : x.1 = k
    · rw [look_pos hk] at h
      cases h
      rw [if_pos hk]
      have e2 : M.map (fun p => if p.1 = k then (p.1, c) else p) = M := by
        rw [List.map_congr_left (g := id) fun p hp => ?_, List.map_id]
        rw [if_neg fun z => nd.1 (by rw [hk, ← z]; exact List.mem_map.mpr ⟨p, hp, rfl⟩)]
        rfl
      rw [e2]
      unfold sumT
      simp only [List.map_cons, List.sum_cons]
      omega
    · rw [look_neg hk] at h
      rw [if_neg hk]
      have ih := sumT_put (c := c) nd.2 h
      have e3 : (M.any fun p => decide (p.1 = k)) = true := by rw [look_any, h]; rfl
      unfold put at ih
      rw [if_pos e3] at ih
      unfold sumT at ih ⊢
      simp only [List.map_cons, List.sum_cons]
      omega
theorem put_len_old {M : Tab} {k : T2x} {c v : Int} (h : look M k = some v) : (put M k c).length = M.length := by
  unfold put
  rw [if_pos (by rw [look_any, h]; rfl), List.length_map]
noncomputable def Less (N : Nat) (M' M : Tab) : Prop := N - M'.length < N - M.length ∨ (M'.length = M.length ∧ sumT M' < sumT M)
theorem Less.trans {N : Nat} {A B C : Tab} (h : Less N A B) (h2 : Less N B C) : Less N A C := by
  unfold Less at *
  omega
noncomputable def Prog (N : Nat) (M : Tab) (z : Tab × Bool) : Prop := (z.2 = false ∧ z.1 = M) ∨ (z.2 = true ∧ Less N z.1 M)
theorem Prog.comp {N : Nat} {M : Tab} {z y : Tab × Bool} (h : Prog N M z) (h2 : Prog N z.1 y) : Prog N M (y.1, z.2 || y.2) := by
  rcases h with ⟨e1, e2⟩ | ⟨e1, e2⟩
  · rw [e2] at h2
    rw [e1, Bool.false_or]
    exact h2
  · rcases h2 with ⟨e3, e4⟩ | ⟨e3, e4⟩
    · rw [e1, e4]; exact .inr ⟨rfl, e2⟩
    · rw [e1]; exact .inr ⟨rfl, e4.trans e2⟩
theorem low1_prog {K : List T2x} {M : Tab} (h : TabOk K M) {key : T2x} (hk : key ∈ K) {o : Option Int} (ho : ∀ c, o = some c → 1 ≤ c) : TabOk K (low1 M key o).1 ∧ Prog K.length M (low1 M key o) := by
  cases o with
  | none => exact ⟨h, .inl ⟨rfl, rfl⟩⟩
  | some c =>
    have hc := ho c rfl
    unfold low1
    cases hl : look M key with
    | none =>
      have h1 := h.put hk hc
      refine ⟨h1, .inr ⟨rfl, .inl ?_⟩⟩
      have h2 := h1.len
      show K.length - (put M key c).length < _
      rw [put_new c hl, List.length_append, List.length_singleton] at h2 ⊢
      omega
    | some v =>
      show TabOk K (if c < v then (put M key c, true) else (M, false)).1 ∧ Prog K.length M (if c < v then (put M key c, true) else (M, false))
      by_cases hcv : c < v
      · rw [if_pos hcv]
        refine ⟨h.put hk hc, .inr ⟨rfl, .inr ⟨put_len_old hl, ?_⟩⟩⟩
        have := sumT_put (c := c) h.nd hl
        show sumT (put M key c) < sumT M
        omega
      · rw [if_neg hcv]
        exact ⟨h, .inl ⟨rfl, rfl⟩⟩
theorem lowered_prog {K : List T2x} {r : RuleD} (hr : 1 ≤ r.cost) {p : Pic} (hk : (shw p, r.name) ∈ K) {M : Tab} (h : TabOk K M) : TabOk K (loweredP M r p).1 ∧ Prog K.length M (loweredP M r p) := by
  have go : ∀ (us : List Use) (z : Tab × Bool), TabOk K z.1 → Prog K.length M z → TabOk K (us.foldl (lowS r (shw p, r.name)) z).1 ∧ Prog K.length M (us.foldl (lowS r (shw p, r.name)) z) := fun us => by
    induction us with
    | nil => intro z h1 h2; exact ⟨h1, h2⟩
    | cons u us ih =>
      intro z h1 h2
      have := low1_prog h1 hk (o := costByP z.1 r u) fun c hc => Int.le_trans hr (costAcc_pos h1 u _ _ hc)
      exact ih (lowS r (shw p, r.name) z u) this.1 (h2.comp this.2)
  exact go _ (M, false) h (.inl ⟨rfl, rfl⟩)
noncomputable def lowAll (r : RuleD) (pics : List Pic) (z : Tab × Bool) : Tab × Bool := pics.foldl (fun z p => ((loweredP z.1 r p).1, z.2 || (loweredP z.1 r p).2)) z
noncomputable def passP (rs : List RuleD) (pics : List Pic) (z : Tab × Bool) : Tab × Bool := rs.foldl (fun z r => lowAll r pics z) z
noncomputable def isTurn : RuleD → Bool
  | .turn .. => true
  | _ => false
noncomputable def rnd (ts : List RuleD) (pics : List Pic) (M : Tab) : Tab × Bool := passP ts pics (M, false)
noncomputable def iterT (ts : List RuleD) (pics : List Pic) : Nat → Tab → Tab
  | 0, M => M
  | n + 1, M => (rnd ts pics (iterT ts pics n M)).1
theorem iterT_shift (ts : List RuleD) (pics : List Pic) (M : Tab) : ∀ n, iterT ts pics (n + 1) M = iterT ts pics n (rnd ts pics M).1
  | 0 => rfl
  | n + 1 => by
    show (rnd ts pics (iterT ts pics (n + 1) M)).1 = (rnd ts pics (iterT ts pics n (rnd ts pics M).1)).1
    rw [iterT_shift ts pics M n]
structure KeysOk (K : List T2x) (rs : List RuleD) (pics : List Pic) : Prop where
  cost : ∀ r ∈ rs, 1 ≤ r.cost
  key : ∀ p ∈ pics, ∀ r ∈ rs, (shw p, r.name) ∈ K
theorem lowAll_prog {K : List T2x} {r : RuleD} (hr : 1 ≤ r.cost) {M : Tab} : ∀ (pics : List Pic) (z : Tab × Bool), (∀ p ∈ pics, (shw p, r.name) ∈ K) → TabOk K z.1 → Prog K.length M z → TabOk K (lowAll r pics z).1 ∧ Prog K.length M (lowAll r pics z)
  | [], z, _, h1, h2 => ⟨h1, h2⟩
  | p :: pics, z, hk, h1, h2 => by
    have := lowered_prog hr (hk p (List.mem_cons_self ..)) h1
    exact lowAll_prog hr pics _ (fun q hq => hk q (List.mem_cons_of_mem _ hq)) this.1 (h2.comp this.2)
theorem passP_prog {K : List T2x} {pics : List Pic} {M : Tab} : ∀ (rs : List RuleD) (z : Tab × Bool), KeysOk K rs pics → TabOk K z.1 → Prog K.length M z → TabOk K (passP rs pics z).1 ∧ Prog K.length M (passP rs pics z)
  | [], z, _, h1, h2 => ⟨h1, h2⟩
  | r :: rs, z, hk, h1, h2 => by
    have := lowAll_prog (hk.cost r (List.mem_cons_self ..)) pics z (fun p hp => hk.key p hp r (List.mem_cons_self ..)) h1 h2
    exact passP_prog rs _ ⟨fun q hq => hk.cost q (List.mem_cons_of_mem _ hq), fun p hp q hq => hk.key p hp q (List.mem_cons_of_mem _ hq)⟩ this.1 this.2
theorem KeysOk.sub {K : List T2x} {rs rs' : List RuleD} {pics pics' : List Pic} (h : KeysOk K rs pics) (h1 : ∀ r ∈ rs', r ∈ rs) (h2 : ∀ p ∈ pics', p ∈ pics) : KeysOk K rs' pics' :=
  ⟨fun r hr => h.cost r (h1 r hr), fun p hp r hr => h.key p (h2 p hp) r (h1 r hr)⟩
theorem iterT_ok {K : List T2x} {ts : List RuleD} {pics : List Pic} (hk : KeysOk K ts pics) {M : Tab} (h : TabOk K M) : ∀ n, TabOk K (iterT ts pics n M)
  | 0 => h
  | n + 1 => (passP_prog ts _ hk (iterT_ok hk h n) (.inl ⟨rfl, rfl⟩)).1
theorem rounds_end {K : List T2x} {ts : List RuleD} {pics : List Pic} (hk : KeysOk K ts pics) : ∀ (a s : Nat) (M : Tab), K.length - M.length = a → sumT M = s → TabOk K M → ∃ n, (∀ k < n, (rnd ts pics (iterT ts pics k M)).2 = true) ∧ (rnd ts pics (iterT ts pics n M)).2 = false := by
  intro a
  induction a using Nat.strongRecOn with
  | _ a iha =>
    intro s
    induction s using Nat.strongRecOn with
    | _ s ihs =>
      intro M ea es hM
      have hp := passP_prog ts (M, false) hk hM (.inl ⟨rfl, rfl⟩)
      cases hf : (rnd ts pics M).2 with
      | false => exact ⟨0, fun k hk => absurd hk (Nat.not_lt_zero k), hf⟩
      | true =>
        have go : (∃ n, (∀ k < n, (rnd ts pics (iterT ts pics k (rnd ts pics M).1)).2 = true) ∧ (rnd ts pics (iterT ts pics n (rnd ts pics M).1)).2 = false) → ∃ n, (∀ k < n, (rnd ts pics (iterT ts pics k M)).2 = true) ∧ (rnd ts pics (iterT ts pics n M)).2 = false := by
          rintro ⟨n, h1, h2⟩
          refine ⟨n + 1, fun k hk => ?_, by rw [iterT_shift]; exact h2⟩
          cases k with
          | zero => exact hf
          | succ k => rw [iterT_shift]; exact h1 k (by omega)
        refine go ?_
        rcases hp.2 with ⟨e, _⟩ | ⟨_, e⟩
        · rw [show (passP ts pics (M, false)).2 = (rnd ts pics M).2 from rfl, hf] at e; cases e
        · rcases e with e | ⟨e1, e2⟩
          · exact iha _ (ea ▸ e) _ (rnd ts pics M).1 rfl rfl hp.1
          · exact ihs _ (es ▸ e2) (rnd ts pics M).1 (by rw [show (rnd ts pics M).1.length = M.length from e1]; exact ea) rfl hp.1
noncomputable def firstPass (rs : List RuleD) (pics : List Pic) (M : Tab) : Tab := (passP (rs.filter fun r => !isTurn r) pics (M, false)).1
noncomputable def Settled (rs : List RuleD) (pics : List Pic) (M M' : Tab) : Prop := ∃ n, M' = iterT (rs.filter isTurn) pics (n + 1) (firstPass rs pics M) ∧ (rnd (rs.filter isTurn) pics (iterT (rs.filter isTurn) pics n (firstPass rs pics M))).2 = false
structure SetPre (K : List T2x) (rs : List RuleD) (pics : List Pic) (M : Tab) : Prop where
  good : ∀ r ∈ rs, r.good = true
  r24 : rs.length ≤ 1000
  pk : ∀ p ∈ pics, PicOk p ∧ ∃ r c, Pk p r c
  tab : TabOk K M
  k4 : K.length ≤ 300000
  keys : KeysOk K rs pics
noncomputable def settleS : Tw.Spec := fun A P _ => ∃ (g : GramD) (ad : Addr) (M : Tab) (pics : List Pic) (K : List T2x), A = [vl g, .own (ownD T2x repInt ad M), vl pics] ∧ SetPre K g.rules pics M ∧ ∀ M', Settled g.rules pics M M' → TabOk K M' → P (.chg repUnit () [ownD T2x repInt ad M'])
theorem lowAll_snoc (r : RuleD) (pics : List Pic) (p : Pic) (z : Tab × Bool) : lowAll r (pics ++ [p]) z = ((loweredP (lowAll r pics z).1 r p).1, (lowAll r pics z).2 || (loweredP (lowAll r pics z).1 r p).2) := by
  unfold lowAll
  rw [List.foldl_append]; rfl
theorem passP_snoc (rs : List RuleD) (r : RuleD) (pics : List Pic) (z : Tab × Bool) : passP (rs ++ [r]) pics z = lowAll r pics (passP rs pics z) := by
  unfold passP
  rw [List.foldl_append]; rfl
theorem take_snoc {A : Type} {xs : List A} {k : Nat} {x : A} (h : xs[k]? = some x) : xs.take (k + 1) = xs.take k ++ [x] := by
  rw [List.take_succ, h]; rfl
section
variable {P : Program} {w : World} {K : PySem.W.Frag} {mg : Str → Option Value} {base : Heap}
theorem ok_settle (T : Txt K mg) : Has P w K mg base 5 "settle" ["grammar", "told", "pictures"] settleS := by
  refine Has.ofU 1 T.f_settle sc_settle (fun A Q R ⟨g, ad, M, pics, KK, e, _⟩ => by rw [e]; rfl) fun f cdv A outer s0 H E hr Γ Q R ⟨g, ad, M, pics, KK, e, h, hq⟩ => ?_
  subst e
  have low : ∀ (M : Tab) (r : RuleD) (p : Pic) (s3 s6 : Slot), TabOk KK M → r ∈ g.rules → p ∈ pics → ∀ {q1 q2 q3 q4 q5 : Pos}, EG (cxOf (L2.CX P w) P w K mg base N_settle "settle" (defScope s_settle) f cdv A outer s0 H E).nox [vl g, .own (ownD T2x repInt ad M), vl pics, s3, vl r, vl p, s6] (.Call (.Name "lowered" q1) [.Name "told" q2, .Name "rule" q3, .Name "picture" q4] [] q5)
      (fun r' Γ' => ∃ b, (b = (loweredP M r p).2 ∧ Γ' = [vl g, .own (ownD T2x repInt ad (loweredP M r p).1), vl pics, s3, vl r, vl p, s6]) ∧ r' = .val repBool b) (fun _ _ => False) := by
    intro M r p s3 s6 hM hrr hpp q1 q2 q3 q4 q5
    obtain ⟨po, rr, c, hp⟩ := h.pk p hpp
    exact eg_call 1 (i := repBool) (G := fun x o' => x = (loweredP M r p).2 ∧ o' = ownD T2x repInt ad (loweredP M r p).1) (ok_lowered T) (hr.mono (by decide)) (eab_o 1 (eab_v (ev_var 4) (eab_v (ev_var 5) eab_nil))) rfl rfl (fun x o' ⟨_, e⟩ => by rw [e]; rfl) (fun x o' ⟨e1, e2⟩ => ⟨x, ⟨e1, by rw [e2]; rfl⟩, rfl⟩)
      (fun P' R' h1 _ => ⟨ad, M, r, p, rr, c, rfl, h.good r hrr, po, hp, by have := hM.len; have := h.k4; omega, h1 _ _ ⟨rfl, rfl⟩⟩)
  -- all pictures by one rule, in the first pass
  have ok1 : ∀ (rs : List RuleD) (k : Nat) (r : RuleD), (∀ q ∈ rs, q ∈ g.rules) → r ∈ g.rules → TabOk KK (lowAll r (pics.take k) (passP rs pics (M, false))).1 := fun rs k r h1 h2 =>
    (lowAll_prog (M := M) (h.keys.cost r h2) _ _ (fun p hp => h.keys.key p (List.mem_of_mem_take hp) r h2) (passP_prog rs (M, false) (h.keys.sub h1 fun _ z => z) h.tab (.inl ⟨rfl, rfl⟩)).1 (passP_prog rs (M, false) (h.keys.sub h1 fun _ z => z) h.tab (.inl ⟨rfl, rfl⟩)).2).1
  refine st_setN 3 (en_nil RuleD) (fun at_ => ?_) sc_settle.nd
  refine st_for (xs := g.rules) (fun k Γ => Le Γ [vl g, .own (ownD T2x repInt ad (passP ((g.rules.take k).filter fun r => !isTurn r) pics (M, false)).1), vl pics, ls at_ ((g.rules.take k).filter isTurn), .no, .no, .no])
    (src_list (ev_of_en (en_meth0 (x := g) T.o_Grammar (ok_Grammar_rules T) (hr.mono (by decide)) rfl (lk rfl) (ev_var 0) fun P' R' h => ⟨g, rfl, h⟩))) (tg_name 4) Le.refl (fun k r Γ1 hk hP => ?_) (fun Γ1 hP => ?_) (pgn 4 sc_settle.nd)
  · obtain ⟨hlt, ex⟩ := List.getElem?_eq_some_iff.mp hk
    have hrm : r ∈ g.rules := ex ▸ List.getElem_mem hlt
    have hsub : ∀ q ∈ (g.rules.take k).filter (fun r => !isTurn r), q ∈ g.rules := fun q hq => List.mem_of_mem_take (List.mem_filter.mp hq).1
    refine st_le (hP.set 4 _) ?_
    rw [take_snoc hk, List.filter_append, List.filter_append]
    generalize hrs : (g.rules.take k).filter (fun r => !isTurn r) = rs at hsub
    have hz : ((g.rules.take k).filter isTurn).length ≤ 1000 := Nat.le_trans (List.length_filter_le _ _) (by rw [List.length_take]; have := h.r24; omega)
    generalize hts : (g.rules.take k).filter isTurn = ts at hz
    cases r with
    | turn n c a t =>
      refine st_if (k := true) (et_val (ev_isiI T.b_isinstance T.o_TurnRule T.o_TurnRule T.u_TurnRule_TurnRule rfl (ev_var 4))) (fun _ => ?_) (fun h => nomatch h)
      refine st_append 3 (ad := at_) (xs := ts) (x := RuleD.turn n c a t) (ev_var 4) (st_nil (st_nil ?_)) (lt_mid (by omega))
      show Le _ [vl g, .own (ownD T2x repInt ad (passP (rs ++ []) pics (M, false)).1), vl pics, ls at_ (ts ++ [RuleD.turn n c a t]), .no, .no, .no]
      rw [List.append_nil]
      walk_at "le"
    | cell n c s =>
      refine st_if (k := false) (et_val (ev_isiI T.b_isinstance T.o_CellRule T.o_TurnRule T.u_CellRule_TurnRule rfl (ev_var 4))) (fun h => nomatch h) (fun _ => ?_)
      refine st_for (xs := pics) (fun k Γ => Le Γ [vl g, .own (ownD T2x repInt ad (lowAll (.cell n c s) (pics.take k) (passP rs pics (M, false))).1), vl pics, ls at_ ts, vl (RuleD.cell n c s), .no, .no]) (src_list (ev_var 2)) (tg_name 5) Le.refl (fun j p Γ2 hj hP2 => ?_) (fun Γ2 hP2 => st_nil (st_nil ?_)) (pgn 5 sc_settle.nd)
      · obtain ⟨hlj, ej⟩ := List.getElem?_eq_some_iff.mp hj
        refine st_le (hP2.set 5 _) (st_dropG (low _ _ _ _ _ (ok1 rs j _ hsub hrm) hrm (ej ▸ List.getElem_mem hlj)) (fun r' Γ' ⟨b, ⟨_, e⟩, _⟩ => st_nil ?_) (fun _ _ z => z.elim))
        rw [e, take_snoc hj, lowAll_snoc]
        walk_at "le"
      · rw [List.take_length] at hP2
        refine hP2.trans ?_
        show Le _ [vl g, .own (ownD T2x repInt ad (passP (rs ++ [RuleD.cell n c s]) pics (M, false)).1), vl pics, ls at_ (ts ++ []), .no, .no, .no]
        rw [List.append_nil, passP_snoc]
        walk_at "le"
    | beside n c s b' =>
      refine st_if (k := false) (et_val (ev_isiI T.b_isinstance T.o_BesideRule T.o_TurnRule T.u_BesideRule_TurnRule rfl (ev_var 4))) (fun h => nomatch h) (fun _ => ?_)
      refine st_for (xs := pics) (fun k Γ => Le Γ [vl g, .own (ownD T2x repInt ad (lowAll (.beside n c s b') (pics.take k) (passP rs pics (M, false))).1), vl pics, ls at_ ts, vl (RuleD.beside n c s b'), .no, .no]) (src_list (ev_var 2)) (tg_name 5) Le.refl (fun j p Γ2 hj hP2 => ?_) (fun Γ2 hP2 => st_nil (st_nil ?_)) (pgn 5 sc_settle.nd)
      · obtain ⟨hlj, ej⟩ := List.getElem?_eq_some_iff.mp hj
        refine st_le (hP2.set 5 _) (st_dropG (low _ _ _ _ _ (ok1 rs j _ hsub hrm) hrm (ej ▸ List.getElem_mem hlj)) (fun r' Γ' ⟨b, ⟨_, e⟩, _⟩ => st_nil ?_) (fun _ _ z => z.elim))
        rw [e, take_snoc hj, lowAll_snoc]
        walk_at "le"
      · rw [List.take_length] at hP2
        refine hP2.trans ?_
        show Le _ [vl g, .own (ownD T2x repInt ad (passP (rs ++ [RuleD.beside n c s b']) pics (M, false)).1), vl pics, ls at_ (ts ++ []), .no, .no, .no]
        rw [List.append_nil, passP_snoc]
        walk_at "le"
    | above n c s b' =>
      refine st_if (k := false) (et_val (ev_isiI T.b_isinstance T.o_AboveRule T.o_TurnRule T.u_AboveRule_TurnRule rfl (ev_var 4))) (fun h => nomatch h) (fun _ => ?_)
      refine st_for (xs := pics) (fun k Γ => Le Γ [vl g, .own (ownD T2x repInt ad (lowAll (.above n c s b') (pics.take k) (passP rs pics (M, false))).1), vl pics, ls at_ ts, vl (RuleD.above n c s b'), .no, .no]) (src_list (ev_var 2)) (tg_name 5) Le.refl (fun j p Γ2 hj hP2 => ?_) (fun Γ2 hP2 => st_nil (st_nil ?_)) (pgn 5 sc_settle.nd)
      · obtain ⟨hlj, ej⟩ := List.getElem?_eq_some_iff.mp hj
        refine st_le (hP2.set 5 _) (st_dropG (low _ _ _ _ _ (ok1 rs j _ hsub hrm) hrm (ej ▸ List.getElem_mem hlj)) (fun r' Γ' ⟨b, ⟨_, e⟩, _⟩ => st_nil ?_) (fun _ _ z => z.elim))
        rw [e, take_snoc hj, lowAll_snoc]
        walk_at "le"
      · rw [List.take_length] at hP2
        refine hP2.trans ?_
        show Le _ [vl g, .own (ownD T2x repInt ad (passP (rs ++ [RuleD.above n c s b']) pics (M, false)).1), vl pics, ls at_ (ts ++ []), .no, .no, .no]
        rw [List.append_nil, passP_snoc]
        walk_at "le"
  rw [List.take_length] at hP
  have ksub : KeysOk KK (g.rules.filter isTurn) pics := h.keys.sub (fun q hq => (List.mem_filter.mp hq).1) fun _ z => z
  have okF : TabOk KK (firstPass g.rules pics M) := (passP_prog (M := M) _ (M, false) (h.keys.sub (fun q hq => (List.mem_filter.mp hq).1) fun _ z => z) h.tab (.inl ⟨rfl, rfl⟩)).1
  have hP : Le Γ1 [vl g, .own (ownD T2x repInt ad (firstPass g.rules pics M)), vl pics, ls at_ (g.rules.filter isTurn), .no, .no, .no] := hP
  obtain ⟨n, hn1, hn2⟩ := rounds_end ksub _ _ _ rfl rfl okF
  have hset : Settled g.rules pics M (iterT (g.rules.filter isTurn) pics (n + 1) (firstPass g.rules pics M)) := ⟨n, rfl, hn2⟩
  have htm : ∀ q ∈ g.rules.filter isTurn, q ∈ g.rules := fun q hq => (List.mem_filter.mp hq).1
  generalize hM1 : firstPass g.rules pics M = M1 at hP hn1 hn2 hset okF
  generalize hts : g.rules.filter isTurn = ts at hP hn1 hn2 hset ksub htm
  refine st_le hP (st_freeze 3 (frozL (i := repInst)) (st_set 6 ev_bl ?_ sc_settle.nd))
  refine st_while (fun m Γ => ∃ (k : Nat) (b : Bool), (b = true → k ≤ n ∧ m = n + 1 - k) ∧ (b = false → k = n + 1) ∧ Le Γ [vl g, .own (ownD T2x repInt ad (iterT ts pics k M1)), vl pics, vl ts, .no, .no, vl b]) (n + 1) ⟨0, true, fun _ => ⟨Nat.zero_le _, rfl⟩, (fun z => Bool.noConfusion z), Le.refl⟩ (fun m Γ2 ⟨k, b, hb1, hb2, hP2⟩ => ⟨b, et_le hP2 (et_val (ev_var 6)), fun hb => ?_, fun hb => ?_⟩)
  · obtain ⟨hkn, hm⟩ := hb1 hb
    refine st_le hP2 (st_set 6 ev_bl ?_ sc_settle.nd)
    have okk := iterT_ok ksub okF k
    refine st_for (xs := ts) (fun j Γ => Le Γ [vl g, .own (ownD T2x repInt ad (passP (ts.take j) pics (iterT ts pics k M1, false)).1), vl pics, vl ts, .no, .no, vl (passP (ts.take j) pics (iterT ts pics k M1, false)).2]) (src_list (ev_var 3)) (tg_name 4) (by walk_at "le") (fun j r Γ3 hj hP3 => ?_) (fun Γ3 hP3 => ?_) (pgn 4 sc_settle.nd)
    · obtain ⟨hlj, ej⟩ := List.getElem?_eq_some_iff.mp hj
      have hrt : r ∈ ts := ej ▸ List.getElem_mem hlj
      have ok2 : ∀ i, TabOk KK (lowAll r (pics.take i) (passP (ts.take j) pics (iterT ts pics k M1, false))).1 := fun i => by
        have h1 := passP_prog (M := iterT ts pics k M1) (ts.take j) (iterT ts pics k M1, false) (ksub.sub (fun q hq => List.mem_of_mem_take hq) fun _ z => z) okk (.inl ⟨rfl, rfl⟩)
        exact (lowAll_prog (M := iterT ts pics k M1) (ksub.cost r hrt) _ _ (fun p hp => ksub.key p (List.mem_of_mem_take hp) r hrt) h1.1 h1.2).1
      refine st_le (hP3.set 4 _) ?_
      refine st_for (xs := pics) (fun i Γ => Le Γ [vl g, .own (ownD T2x repInt ad (lowAll r (pics.take i) (passP (ts.take j) pics (iterT ts pics k M1, false))).1), vl pics, vl ts, vl r, .no, vl (lowAll r (pics.take i) (passP (ts.take j) pics (iterT ts pics k M1, false))).2]) (src_list (ev_var 2)) (tg_name 5) (by walk_at "le") (fun i p Γ4 hi hP4 => ?_) (fun Γ4 hP4 => st_nil ?_) (pgn 5 sc_settle.nd)
      · obtain ⟨hli, ei⟩ := List.getElem?_eq_some_iff.mp hi
        refine st_le (hP4.set 5 _) ?_
        have es := lowAll_snoc r (pics.take i) p (passP (ts.take j) pics (iterT ts pics k M1, false))
        rw [← take_snoc hi] at es
        have oki := ok2 i
        generalize lowAll r (pics.take i) (passP (ts.take j) pics (iterT ts pics k M1, false)) = z at oki es ⊢
        refine st_ifG (etg_val (low z.1 r p (vl ts) (vl z.2) oki (htm r hrt) (ei ▸ List.getElem_mem hli))) (fun Γ5 ⟨h1, e5⟩ => ?_) (fun Γ5 ⟨h1, e5⟩ => ?_)
        · rw [e5]
          refine st_set 6 ev_bl (st_nil (st_nil ?_)) sc_settle.nd
          rw [es, ← h1, Bool.or_true]
          walk_at "le"
        · rw [e5]
          refine st_nil (st_nil ?_)
          rw [es, ← h1, Bool.or_false]
          walk_at "le"
      · rw [List.take_length] at hP4
        refine hP4.trans ?_
        rw [take_snoc hj, passP_snoc]
        walk_at "le"
    · rw [List.take_length] at hP3
      refine st_nil ?_
      rcases Nat.lt_or_ge k n with hlt | hge
      · refine ⟨n + 1 - (k + 1), by omega, k + 1, true, fun _ => ⟨by omega, rfl⟩, (fun z => Bool.noConfusion z), ?_⟩
        have := hn1 k hlt
        rw [← this]
        exact hP3
      · have ek : k = n := by omega
        subst ek
        refine ⟨0, by omega, k + 1, false, (fun z => Bool.noConfusion z), fun _ => rfl, ?_⟩
        rw [← hn2]
        exact hP3
  · have hk := hb2 hb
    subst hk
    exact st_le hP2 (st_nil ⟨_, rfl, hq _ hset (iterT_ok ksub okF _)⟩)
end
local macro_rules | `(tactic| walk_at "le") => `(tactic| repeat (first | exact le_nil | refine le_cons ?_ | refine le_no ?_))
noncomputable abbrev grpF (xs : List Pic) (k : Int) : List Pic := xs.filter fun s => decide (cellsOf s = k)
structure GrpOk (l : List (Int × Addr × List Pic)) (xs : List Pic) : Prop where
  val : ∀ x ∈ l, x.2.2 = grpF xs x.1
  all : ∀ s ∈ xs, cellsOf s ∈ l.map (·.1)
  some : ∀ k ∈ l.map (·.1), ∃ s ∈ xs, cellsOf s = k
  nd : (l.map (·.1)).Nodup
theorem GrpOk.nil : GrpOk [] [] := ⟨fun _ h => (List.not_mem_nil h).elim, fun _ h => (List.not_mem_nil h).elim, fun _ h => (List.not_mem_nil h).elim, List.nodup_nil⟩
theorem grpF_snoc (xs : List Pic) (s : Pic) (k : Int) : grpF (xs ++ [s]) k = grpF xs k ++ (if cellsOf s = k then [s] else []) := by
  unfold grpF
  rw [List.filter_append]
  congr 1
  by_cases h : cellsOf s = k
  · rw [if_pos h, List.filter_cons, if_pos (decide_eq_true h)]; rfl
  · rw [if_neg h, List.filter_cons, if_neg (by rw [decide_eq_false h]; decide)]; rfl
theorem GrpOk.add {l : List (Int × Addr × List Pic)} {xs : List Pic} (h : GrpOk l xs) (s : Pic) (b : Addr) : GrpOk (addG l (cellsOf s) b s) (xs ++ [s]) := by
  by_cases ha : (l.any fun p => decide (p.1 = cellsOf s)) = true
  · have e : addG l (cellsOf s) b s = l.map fun p => if p.1 = cellsOf s then (p.1, p.2.1, p.2.2 ++ [s]) else p := by unfold addG; rw [if_pos ha]
    have ek : (addG l (cellsOf s) b s).map (·.1) = l.map (·.1) := by
      rw [e, List.map_map]
      refine List.map_congr_left fun p _ => ?_
      show (if p.1 = cellsOf s then _ else p).1 = p.1
      split <;> rfl
    refine ⟨fun x hx => ?_, fun z hz => ?_, fun k hk => ?_, by rw [ek]; exact h.nd⟩
    · rw [e] at hx
      obtain ⟨p, hp, rfl⟩ := List.mem_map.mp hx
      have hv := h.val p hp
      rw [grpF_snoc]
      by_cases hk : p.1 = cellsOf s
      · rw [if_pos hk, if_pos hk.symm]
        show p.2.2 ++ [s] = grpF xs p.1 ++ [s]
        rw [hv]
      · rw [if_neg hk, if_neg (fun z => hk z.symm), List.append_nil]
        exact hv
    · rw [ek]
      rcases List.mem_append.mp hz with hz | hz
      · exact h.all z hz
      · rw [List.mem_singleton.mp hz]
        obtain ⟨p, hp, hd⟩ := List.any_eq_true.mp ha
        exact List.mem_map.mpr ⟨p, hp, of_decide_eq_true hd⟩
    · rw [ek] at hk
      obtain ⟨z, hz, e⟩ := h.some k hk
      exact ⟨z, List.mem_append_left _ hz, e⟩
  · have e : addG l (cellsOf s) b s = l ++ [(cellsOf s, b, [s])] := by unfold addG; rw [if_neg ha]
    have hno : ∀ z ∈ xs, cellsOf z ≠ cellsOf s := fun z hz hk => by
      obtain ⟨p, hp, e⟩ := List.mem_map.mp (h.all z hz)
      exact ha (List.any_eq_true.mpr ⟨p, hp, decide_eq_true (e.trans hk)⟩)
    have hnk : cellsOf s ∉ l.map (·.1) := fun hk => by
      obtain ⟨p, hp, e⟩ := List.mem_map.mp hk
      exact ha (List.any_eq_true.mpr ⟨p, hp, decide_eq_true e⟩)
    have ek : (addG l (cellsOf s) b s).map (·.1) = l.map (·.1) ++ [cellsOf s] := by rw [e, List.map_append]; rfl
    refine ⟨fun x hx => ?_, fun z hz => ?_, fun k hk => ?_, ?_⟩
    · rw [e] at hx
      rw [grpF_snoc]
      rcases List.mem_append.mp hx with hx | hx
      · rw [if_neg (fun z => hnk (by rw [z]; exact List.mem_map.mpr ⟨x, hx, rfl⟩)), List.append_nil]
        exact h.val x hx
      · rw [List.mem_singleton.mp hx]
        show [s] = grpF xs (cellsOf s) ++ (if cellsOf s = cellsOf s then [s] else [])
        rw [if_pos rfl, show grpF xs (cellsOf s) = [] from List.filter_eq_nil_iff.mpr fun z hz hd => hno z hz (of_decide_eq_true hd)]
        rfl
    · rw [ek]
      rcases List.mem_append.mp hz with hz | hz
      · exact List.mem_append_left _ (h.all z hz)
      · rw [List.mem_singleton.mp hz]; exact List.mem_append_right _ (List.mem_singleton.mpr rfl)
    · rw [ek] at hk
      rcases List.mem_append.mp hk with hk | hk
      · obtain ⟨z, hz, e⟩ := h.some k hk
        exact ⟨z, List.mem_append_left _ hz, e⟩
      · exact ⟨s, List.mem_append_right _ (List.mem_singleton.mpr rfl), (List.mem_singleton.mp hk).symm⟩
    · rw [ek]
      exact List.nodup_append.mpr ⟨h.nd, by simp, fun a ha b hb e => hnk (by rw [List.mem_singleton.mp hb] at e; exact e ▸ ha)⟩
theorem GrpOk.sizes {l : List (Int × Addr × List Pic)} {xs : List Pic} (h : GrpOk l xs) : l.length ≤ xs.length ∧ ∀ x ∈ l, x.2.2.length ≤ xs.length := by
  refine ⟨?_, fun x hx => by rw [h.val x hx]; exact List.length_filter_le _ _⟩
  have := nodup_leB (m := xs.map cellsOf) h.nd fun k hk => by
    obtain ⟨s, hs, e⟩ := h.some k hk
    exact List.mem_map.mpr ⟨s, hs, e⟩
  rwa [List.length_map, List.length_map] at this
set_option genInjectivity true in
inductive Tabled (rs : List RuleD) : List (List Pic) → Tab → Prop
  | nil : Tabled rs [] []
  | snoc {gs : List (List Pic)} {pics : List Pic} {M M' : Tab} (h : Tabled rs gs M) (s : Settled rs pics M M') : Tabled rs (gs ++ [pics]) M'
noncomputable def keysT (rs : List RuleD) (p : Pic) (r c : Nat) : List T2x := (seenL p r c).flatMap fun s => rs.map fun q => (shw s, q.name)
structure TableOf (rs : List RuleD) (p : Pic) (r c : Nat) (M : Tab) : Prop where
  ok : TabOk (keysT rs p r c) M
  run : ∃ ks : List Int, ks.Pairwise (· ≤ ·) ∧ ks.Nodup ∧ (∀ k, k ∈ ks ↔ ∃ s ∈ seenL p r c, cellsOf s = k) ∧ Tabled rs (ks.map (grpF (seenL p r c))) M
noncomputable def tableS : Tw.Spec := fun A P _ => ∃ (g : GramD) (p : Pic) (r c : Nat), A = [vl g, vl p] ∧ (∀ q ∈ g.rules, q.good = true) ∧ g.rules.length ≤ 24 ∧ PicOk p ∧ Pk p r c ∧ P (.own fun o => ∃ ad M, TableOf g.rules p r c M ∧ o = ownD T2x repInt ad M)
theorem seenL_len {p : Pic} {r c : Nat} (hr : r ≤ 6) (hc : c ≤ 6) : (seenL p r c).length ≤ 10368 := by
  have h1 := (seenL_perm p r c).length_eq
  have h2 := keyed_len (seenAll p r c)
  have h3 := seenAll_len (p := p) hr hc
  rw [List.length_map] at h1
  omega
theorem seen_ok {p : Pic} {r c : Nat} (ho : PicOk p) {s : Pic} (h : s ∈ seenAll p r c) : PicOk s := by
  obtain ⟨x, _, t, _, rfl⟩ := seenAll_mem.mp h
  exact (PicOk.cut ho _ _ _ _).turned t
theorem keysT_len {rs : List RuleD} {p : Pic} {r c : Nat} (hr : r ≤ 6) (hc : c ≤ 6) (h24 : rs.length ≤ 24) : (keysT rs p r c).length ≤ 300000 := by
  have h1 := flat_len (seenL p r c) (fun s => rs.map fun q => ((shw s, q.name) : T2x)) 24 fun x _ => by rw [List.length_map]; exact h24
  have h2 := seenL_len (p := p) hr hc
  have h3 : (keysT rs p r c).length ≤ (seenL p r c).length * 24 := h1
  omega
theorem ikeys_look {l : List (Int × Addr × List Pic)} (nd : (l.map (·.1)).Nodup) {x : Int × Addr × List Pic} (h : x ∈ l) : look (l.map fun p => (p.1, p.2.2)) x.1 = some x.2.2 := by
  refine look_of_mem ?_ (List.mem_map.mpr ⟨x, h, rfl⟩)
  rw [List.map_map]
  exact nd
section
variable {P : Program} {w : World} {K : PySem.W.Frag} {mg : Str → Option Value} {base : Heap}
theorem ok_table_of (T : Txt K mg) : Has P w K mg base 6 "table_of" ["grammar", "picture"] tableS := by
  refine Has.of T.f_table_of sc_table_of (fun A Q R ⟨g, p, r, c, e, _⟩ => by rw [e]; rfl) fun f cdv A outer s0 H E hr Γ Q R ⟨g, p, r, c, e, hg, h24, ho, hp, hq⟩ => ?_
  subst e
  have hr6 := hp.r6
  have hc6 := hp.c6
  have hSl := seenL_len (p := p) hr6 hc6
  have hSp : ∀ s ∈ seenL p r c, PicOk s ∧ ∃ r c, Pk s r c := fun s hs => ⟨seen_ok ho (seenL_mem.mp hs), seen_pk hp (seenL_mem.mp hs)⟩
  refine st_setG0 repPic 2 (fun ag => ?_) sc_table_of.nd
  refine st_for (xs := seenL p r c) (fun k Γ => ∃ l, GrpOk l ((seenL p r c).take k) ∧ Le Γ [vl g, vl p, .own (ownG repPic ag l), .no, .no, .no]) (src_list (ev_of_en (en_call (ok_seen_in T) (hr.mono (by decide)) (ea_cons (ev_var 1) ea_nil) fun P R h => ⟨_, _, _, rfl, hp, h⟩))) (tg_name 3) ⟨[], GrpOk.nil, Le.refl⟩
    (fun k s Γ1 hk ⟨l, hl, hP⟩ => ?_) (fun Γ1 ⟨l, hl, hP⟩ => ?_) (pgn 3 sc_table_of.nd)
  · obtain ⟨hlt, ex⟩ := List.getElem?_eq_some_iff.mp hk
    obtain ⟨_, r', c', hs⟩ := hSp s (ex ▸ List.getElem_mem hlt)
    have hz := hl.sizes
    have hz1 : ((seenL p r c).take k).length ≤ 10368 := by rw [List.length_take]; omega
    refine st_le (hP.set 3 _) (st_setdApp 2 (ad := ag) (l := l) (kk := cellsOf s) (x := s) (ev_call (ok_cells_in T) (hr.mono (by decide)) (ea_cons (ev_var 3) ea_nil) fun P R h => ⟨_, _, _, rfl, hs, h⟩) (ev_var 3) (lt_mid (by omega)) (fun x hx => lt_mid (by have := hz.2 x hx; omega)) (fun b => st_nil ⟨addG l (cellsOf s) b s, ?_, ?_⟩))
    · rw [take_snoc hk]
      exact hl.add s b
    · walk_at "le"
  · rw [List.take_length] at hl
    refine st_le hP (st_freeze 2 (frozG (i := repPic)) ?_)
    refine st_setD T2x repInt 4 (fun ad => ?_) sc_table_of.nd
    have hks : ∀ k, k ∈ srtI ((l.map fun p => (p.1, p.2.2)).map (·.1)) ↔ k ∈ l.map (·.1) := fun k => by
      rw [(srtI_perm _).mem_iff, List.map_map]; exact Iff.rfl
    have hnd : (srtI ((l.map fun p => (p.1, p.2.2)).map (·.1))).Nodup := by
      rw [(srtI_perm _).nodup_iff, List.map_map]; exact hl.nd
    have hpw := srtI_pw ((l.map fun p => (p.1, p.2.2)).map (·.1))
    refine st_for (xs := srtI ((l.map fun p => (p.1, p.2.2)).map (·.1))) (fun k Γ => ∃ M, TabOk (keysT g.rules p r c) M ∧ Tabled g.rules (((srtI ((l.map fun p => (p.1, p.2.2)).map (·.1))).take k).map (grpF (seenL p r c))) M ∧ Le Γ [vl g, vl p, vl (Dic.mk (l.map fun p => (p.1, p.2.2)) : Dic Int (List Pic)), .no, .own (ownD T2x repInt ad M), .no])
      (src_list (ev_of_en (en_sortedD T.b_sorted (ev_var 2)))) (tg_name 5) ⟨[], TabOk.nil, Tabled.nil, by walk_at "le"⟩ (fun k x Γ2 hk ⟨M, hM, hT, hP2⟩ => ?_) (fun Γ2 ⟨M, hM, hT, hP2⟩ => ?_) (pgn 5 sc_table_of.nd)
    · obtain ⟨hlt, ex⟩ := List.getElem?_eq_some_iff.mp hk
      obtain ⟨y, hy, rfl⟩ := List.mem_map.mp ((hks x).mp (ex ▸ List.getElem_mem hlt))
      have hv := hl.val y hy
      have hlk : look (l.map fun p => (p.1, p.2.2)) y.1 = some (grpF (seenL p r c) y.1) := by rw [← hv]; exact ikeys_look hl.nd hy
      refine st_le (hP2.set 5 _) ?_
      refine st_dropG (eg_callV 4 (i := repUnit) (G := fun x o' => ∃ M', Settled g.rules (grpF (seenL p r c) y.1) M M' ∧ TabOk (keysT g.rules p r c) M' ∧ o' = ownD T2x repInt ad M') (P := fun r' Γ' => ∃ M', Settled g.rules (grpF (seenL p r c) y.1) M M' ∧ TabOk (keysT g.rules p r c) M' ∧ Γ' = [vl g, vl p, vl (Dic.mk (l.map fun p => (p.1, p.2.2)) : Dic Int (List Pic)), .no, .own (ownD T2x repInt ad M'), vl y.1]) (R := fun _ _ => False) (ok_settle T) (hr.mono (by decide))
        (eab_v (ev_var 0) (eab_o 4 (eab_v (ev_dget hr (x := y.1) (y := grpF (seenL p r c) y.1) (ev_var 2) (ev_var 5) hlk) eab_nil))) rfl rfl (fun x o' ⟨_, _, _, e⟩ => by rw [e]; rfl) (fun x o' ⟨M', h1, h2, e⟩ => ⟨M', h1, h2, by rw [e]; rfl⟩)
        (fun P' R' h1 _ => ⟨g, ad, M, grpF (seenL p r c) y.1, keysT g.rules p r c, rfl, ⟨hg, by omega, fun s hs => hSp s (List.mem_filter.mp hs).1, hM, keysT_len hr6 hc6 h24, ⟨fun q hq => (RuleD.bounds (hg q hq)).2.1, fun s hs q hq => List.mem_flatMap.mpr ⟨s, (List.mem_filter.mp hs).1, List.mem_map.mpr ⟨q, hq, rfl⟩⟩⟩⟩, fun M' h2 h3 => h1 () _ ⟨M', h2, h3, rfl⟩⟩)) (fun r' Γ' ⟨M', h1, h2, e⟩ => st_nil ⟨M', h2, ?_, ?_⟩) (fun _ _ z => z.elim)
      · rw [take_snoc hk, List.map_append]
        exact hT.snoc h1
      · rw [e]
        walk_at "le"
    · rw [List.take_length] at hT
      refine st_le hP2 (st_retO 4 hq ⟨ad, M, ⟨hM, _, hpw, hnd, fun k => ?_, hT⟩, rfl⟩)
      rw [hks]
      exact ⟨fun h => hl.some k h, fun ⟨s, hs, e⟩ => e ▸ hl.all s hs⟩
end
theorem joinL_sl : ∀ {p : List Tx}, p ≠ [] → p.flatMap (fun r => r ++ [47]) = TL.joinL [47] p ++ [47]
  | [], h => absurd rfl h
  | [x], _ => by simp [TL.joinL]
  | x :: y :: p, _ => by
    have ih := joinL_sl (p := y :: p) (by simp)
    rw [List.flatMap_cons, ih]
    show (x ++ [47]) ++ (TL.joinL [47] (y :: p) ++ [47]) = (x ++ ([47] ++ TL.joinL [47] (y :: p))) ++ [47]
    simp only [List.append_assoc]
noncomputable def NoSlash (p : Pic) : Prop := ∀ x ∈ p, ∀ c ∈ x, c ≠ 47
theorem split_one : ∀ {x y A B : List Nat}, (∀ c ∈ x, c ≠ 47) → (∀ c ∈ y, c ≠ 47) → x ++ 47 :: A = y ++ 47 :: B → x = y ∧ A = B
  | [], [], A, B, _, _, h => ⟨rfl, by simpa using h⟩
  | [], d :: y, A, B, _, hy, h => by
    have : 47 = d := by
      have := congrArg List.head? h
      simpa using this
    exact absurd this.symm (hy d (List.mem_cons_self ..))
  | c :: x, [], A, B, hx, _, h => by
    have : c = 47 := by
      have := congrArg List.head? h
      simpa using this
    exact absurd this (hx c (List.mem_cons_self ..))
  | c :: x, d :: y, A, B, hx, hy, h => by
    rw [List.cons_append, List.cons_append, List.cons.injEq] at h
    obtain ⟨h1, h2⟩ := split_one (fun z hz => hx z (List.mem_cons_of_mem _ hz)) (fun z hz => hy z (List.mem_cons_of_mem _ hz)) h.2
    exact ⟨by rw [h.1, h1], h2⟩
theorem flat_sl : ∀ {p q : List Tx}, NoSlash p → NoSlash q → p.flatMap (fun r => r ++ [47]) = q.flatMap (fun r => r ++ [47]) → p = q
  | [], [], _, _, _ => rfl
  | [], y :: q, _, _, h => by simp at h
  | x :: p, [], _, _, h => by simp at h
  | x :: p, y :: q, hp, hq, h => by
    rw [List.flatMap_cons, List.flatMap_cons, List.append_assoc, List.append_assoc] at h
    obtain ⟨h1, h2⟩ := split_one (hp x (List.mem_cons_self ..)) (hq y (List.mem_cons_self ..)) h
    rw [h1, flat_sl (fun z hz => hp z (List.mem_cons_of_mem _ hz)) (fun z hz => hq z (List.mem_cons_of_mem _ hz)) h2]
theorem shw_inj {p q : Pic} {r c r' c' : Nat} (hp : Pk p r c) (hq : Pk q r' c') (h1 : NoSlash p) (h2 : NoSlash q) (h : shw p = shw q) : p = q := by
  have ne : ∀ {p : Pic} {r c : Nat}, Pk p r c → p ≠ [] := fun hp z => by have := hp.len; have := hp.r0; rw [z] at *; simp at *; omega
  refine flat_sl h1 h2 ?_
  rw [joinL_sl (ne hp), joinL_sl (ne hq)]
  exact congrArg (· ++ [47]) h
theorem sg_quarter {Φ : Nat → Prop} {p : Pic} {r c : Nat} (hp : Pk p r c) (h : ∀ x ∈ p, ∀ k ∈ x, Φ k) : ∀ x ∈ quarter p, ∀ k ∈ x, Φ k := fun x hx k hk => by
  unfold quarter at hx
  obtain ⟨j, hj, rfl⟩ := List.mem_map.mp hx
  obtain ⟨row, hrow, rfl⟩ := List.mem_map.mp hk
  have hrow := List.mem_reverse.mp hrow
  have hj := List.mem_range.mp hj
  rw [hp.head.2, ← hp.row row hrow] at hj
  rw [List.getD_eq_getElem?_getD, List.getElem?_eq_getElem hj]
  exact h row hrow _ (List.getElem_mem hj)
theorem sg_mirrored {Φ : Nat → Prop} {p : Pic} (h : ∀ x ∈ p, ∀ k ∈ x, Φ k) : ∀ x ∈ mirrored p, ∀ k ∈ x, Φ k := fun x hx k hk => by
  unfold mirrored at hx
  obtain ⟨row, hrow, rfl⟩ := List.mem_map.mp hx
  exact h row hrow k (List.mem_reverse.mp hk)
theorem sg_quarters {Φ : Nat → Prop} {p : Pic} {r c : Nat} (hp : Pk p r c) (h : ∀ x ∈ p, ∀ k ∈ x, Φ k) : ∀ n, ∀ x ∈ quarters n p, ∀ k ∈ x, Φ k
  | 0 => h
  | n + 1 => sg_quarter (hp.quarters n) (sg_quarters hp h n)
theorem sg_turned {Φ : Nat → Prop} {p : Pic} {r c : Nat} (hp : Pk p r c) (h : ∀ x ∈ p, ∀ k ∈ x, Φ k) (t : Nat) : ∀ x ∈ turned p t, ∀ k ∈ x, Φ k := by
  unfold turned
  split
  · exact sg_quarters hp.mirrored (sg_mirrored h) _
  · exact sg_quarters hp h _
theorem sg_cut {Φ : Nat → Prop} {p : Pic} (h : ∀ x ∈ p, ∀ k ∈ x, Φ k) (t l b q : Nat) : ∀ x ∈ cutOut p t l b q, ∀ k ∈ x, Φ k := fun x hx k hk => by
  obtain ⟨row, hrow, rfl⟩ := List.mem_map.mp hx
  exact h row (List.mem_of_mem_drop (List.mem_of_mem_take hrow)) k (List.mem_of_mem_drop (List.mem_of_mem_take hk))
theorem sg_partA {Φ : Nat → Prop} {p : Pic} (h : ∀ x ∈ p, ∀ k ∈ x, Φ k) (s : Bool) (n : Nat) : ∀ x ∈ partA s p n, ∀ k ∈ x, Φ k := fun x hx k hk => by
  cases s with
  | true =>
    obtain ⟨row, hrow, rfl⟩ := List.mem_map.mp (show x ∈ p.map (List.take n) from hx)
    exact h row hrow k (List.mem_of_mem_take hk)
  | false => exact h x (List.mem_of_mem_take (show x ∈ p.take n from hx)) k hk
theorem sg_partB {Φ : Nat → Prop} {p : Pic} (h : ∀ x ∈ p, ∀ k ∈ x, Φ k) (s : Bool) (n : Nat) : ∀ x ∈ partB s p n, ∀ k ∈ x, Φ k := fun x hx k hk => by
  cases s with
  | true =>
    obtain ⟨row, hrow, rfl⟩ := List.mem_map.mp (show x ∈ p.map (List.drop n) from hx)
    exact h row hrow k (List.mem_of_mem_drop hk)
  | false => exact h x (List.mem_of_mem_drop (show x ∈ p.drop n from hx)) k hk
theorem sg_seen {Φ : Nat → Prop} {p : Pic} {r c : Nat} (hp : Pk p r c) (h : ∀ x ∈ p, ∀ k ∈ x, Φ k) {s : Pic} (hs : s ∈ seenAll p r c) : ∀ x ∈ s, ∀ k ∈ x, Φ k := by
  obtain ⟨x, hx, t, _, rfl⟩ := seenAll_mem.mp hs
  obtain ⟨t', l, b, q, rfl, h1, h2, h3, h4⟩ := mem_windows hx
  exact sg_turned (hp.cut h1 h2 h3 h4) (sg_cut h _ _ _ _) t
theorem cells_turned {p : Pic} {r c : Nat} (hp : Pk p r c) (t : Nat) : cellsOf (turned p t) = cellsOf p := by
  rw [(hp.turned t).cells, hp.cells]
  split
  · rfl
  · exact Int.mul_comm _ _
theorem use_parts {Φ : Nat → Prop} {q : RuleD} {p : Pic} {rr c : Nat} (hp : Pk p rr c) (hs : ∀ x ∈ p, ∀ k ∈ x, Φ k) {use : Use} (h : use ∈ usesP q p) : ∀ x ∈ use, (∀ y ∈ x.1, ∀ k ∈ y, Φ k) ∧ (if isTurn q = true then cellsOf x.1 = cellsOf p else cellsOf x.1 < cellsOf p) := by
  have two : ∀ (s : Bool) (a b : Tx) (m : Nat), (m = if s then c else rr) → use ∈ pairs s p a b m → ∀ x ∈ use, (∀ y ∈ x.1, ∀ k ∈ y, Φ k) ∧ cellsOf x.1 < cellsOf p := by
    intro s a b m hm h x hx
    obtain ⟨k, hk, rfl⟩ := List.mem_map.mp h
    have hk := List.mem_range.mp hk
    have hpk := pk_side hp s (n := k + 1) (by omega) (by rw [← hm]; omega)
    have h1 := hpk.1.cells
    have h2 := hpk.2.cells
    have h3 := hp.cells
    have hr0 := hp.r0
    have hc0 := hp.c0
    have e : cellsOf (partA s p (k + 1)) + cellsOf (partB s p (k + 1)) = cellsOf p ∧ 0 < cellsOf (partA s p (k + 1)) ∧ 0 < cellsOf (partB s p (k + 1)) := by
      rw [h1, h2, h3]
      cases s with
      | true =>
        simp only [if_true] at hm ⊢
        refine ⟨?_, Int.mul_pos (by omega) (by omega), Int.mul_pos (by omega) (by omega)⟩
        rw [← Int.mul_add]
        congr 1
        omega
      | false =>
        have hm : m = rr := hm
        refine ⟨?_, Int.mul_pos (by show (0 : Int) < ((k + 1 : Nat) : Int); omega) (by show (0 : Int) < (c : Int); omega), Int.mul_pos (by show (0 : Int) < ((rr - (k + 1) : Nat) : Int); omega) (by show (0 : Int) < (c : Int); omega)⟩
        show ((k + 1 : Nat) : Int) * (c : Int) + ((rr - (k + 1) : Nat) : Int) * (c : Int) = _
        rw [← Int.add_mul]
        congr 1
        omega
    rcases List.mem_cons.mp hx with rfl | hx
    · exact ⟨sg_partA hs s _, by show cellsOf (partA s p (k + 1)) < _; omega⟩
    · rw [List.mem_singleton.mp hx]
      exact ⟨sg_partB hs s _, by show cellsOf (partB s p (k + 1)) < _; omega⟩
  have hl := hp.len
  have hh := hp.head.2
  cases q with
  | cell n k s =>
    intro x hx
    unfold usesP at h
    simp only at h
    split at h
    · rw [List.mem_singleton.mp h] at hx; exact (List.not_mem_nil hx).elim
    · exact (List.not_mem_nil h).elim
  | turn n k a t =>
    intro x hx
    rw [List.mem_singleton.mp (show use ∈ [[(turned p (backN t.toNat), a)]] from h)] at hx
    rw [List.mem_singleton.mp hx]
    exact ⟨sg_turned hp hs _, cells_turned hp _⟩
  | beside n k a b =>
    intro x hx
    have := two true a b _ (by rw [hh]; rfl) h x hx
    exact ⟨this.1, this.2⟩
  | above n k a b =>
    intro x hx
    have := two false a b _ (by rw [hl]; rfl) h x hx
    exact ⟨this.1, this.2⟩
noncomputable def tle (M M' : Tab) : Prop := ∀ k v, look M k = some v → ∃ v', look M' k = some v' ∧ v' ≤ v
theorem tle.refl (M : Tab) : tle M M := fun _ v h => ⟨v, h, Int.le_refl _⟩
theorem tle.trans {A B C : Tab} (h : tle A B) (h2 : tle B C) : tle A C := fun k v e => by
  obtain ⟨v', e', l⟩ := h k v e
  obtain ⟨v2, e2, l2⟩ := h2 k v' e'
  exact ⟨v2, e2, Int.le_trans l2 l⟩
theorem costAcc_mono {M M' : Tab} (h : tle M M') : ∀ (use : Use) (t t' c : Int), t' ≤ t → costAcc M t use = some c → ∃ c', costAcc M' t' use = some c' ∧ c' ≤ c
  | [], t, t', c, ht, e => by
    simp only [costAcc, Option.some.injEq] at e
    exact ⟨t', rfl, by omega⟩
  | x :: us, t, t', c, ht, e => by
    simp only [costAcc] at e
    split at e
    · cases e
    · rename_i v hl
      obtain ⟨v', hl', hv⟩ := h _ _ hl
      obtain ⟨c', e', hc⟩ := costAcc_mono h us (t + v) (t' + v') c (by omega) e
      exact ⟨c', by simp only [costAcc, hl']; exact e', hc⟩
theorem cost_mono {M M' : Tab} (h : tle M M') {r : RuleD} {use : Use} {c : Int} (e : costByP M r use = some c) : ∃ c', costByP M' r use = some c' ∧ c' ≤ c := costAcc_mono h use _ _ c (Int.le_refl _) e
theorem cost_same {M M' : Tab} {r : RuleD} {use : Use} (h : ∀ x ∈ use, look M' (shw x.1, x.2) = look M (shw x.1, x.2)) : costByP M' r use = costByP M r use := by
  have go : ∀ (use : Use) (t : Int), (∀ x ∈ use, look M' (shw x.1, x.2) = look M (shw x.1, x.2)) → costAcc M' t use = costAcc M t use := fun use => by
    induction use with
    | nil => intro t _; rfl
    | cons x us ih =>
      intro t h
      have h1 := h x (List.mem_cons_self ..)
      simp only [costAcc, h1]
      split
      · rfl
      · exact ih _ fun y hy => h y (List.mem_cons_of_mem _ hy)
  exact go use _ h
noncomputable def Done (M : Tab) (r : RuleD) (p : Pic) (use : Use) : Prop := ∀ c, costByP M r use = some c → ∃ v, look M (shw p, r.name) = some v ∧ v ≤ c
noncomputable abbrev Trip := RuleD × Pic × Use
noncomputable def stepT (z : Tab × Bool) (t : Trip) : Tab × Bool := lowS t.1 (shw t.2.1, t.1.name) z t.2.2
theorem low1_cases (M : Tab) (key : T2x) (o : Option Int) : ((low1 M key o) = (M, false) ∧ ∀ c, o = some c → ∃ v, look M key = some v ∧ v ≤ c) ∨ (∃ c, o = some c ∧ (∀ v, look M key = some v → c < v) ∧ low1 M key o = (put M key c, true)) := by
  cases o with
  | none => exact .inl ⟨rfl, fun _ z => nomatch z⟩
  | some c =>
    unfold low1
    cases hl : look M key with
    | none => exact .inr ⟨c, rfl, (fun _ z => by cases z), rfl⟩
    | some v =>
      show ((if c < v then (put M key c, true) else (M, false)) = (M, false) ∧ _) ∨ (∃ c', _ ∧ _ ∧ (if c < v then (put M key c, true) else (M, false)) = _)
      by_cases h : c < v
      · rw [if_pos h]
        exact .inr ⟨c, rfl, fun u hu => by cases hu; exact h, rfl⟩
      · rw [if_neg h]
        exact .inl ⟨rfl, fun c' e => by cases e; exact ⟨v, rfl, by omega⟩⟩
theorem put_tle {M : Tab} {key : T2x} {c : Int} (h : ∀ v, look M key = some v → c < v) : tle M (put M key c) := fun k v e => by
  rw [look_put]
  by_cases hk : k = key
  · rw [if_pos hk]
    subst hk
    exact ⟨c, rfl, Int.le_of_lt (h v e)⟩
  · rw [if_neg hk]
    exact ⟨v, e, Int.le_refl _⟩
structure StepOk (z y : Tab × Bool) (t : Trip) : Prop where
  le : tle z.1 y.1
  same : ∀ k, k ≠ ((shw t.2.1, t.1.name) : T2x) → look y.1 k = look z.1 k
  flag : y.2 = false → z.2 = false ∧ y.1 = z.1 ∧ Done z.1 t.1 t.2.1 t.2.2
  due : ∀ c, costByP z.1 t.1 t.2.2 = some c → ∃ v, look y.1 (shw t.2.1, t.1.name) = some v ∧ v ≤ c
  new : ∀ v, look y.1 (shw t.2.1, t.1.name) = some v → look z.1 (shw t.2.1, t.1.name) = some v ∨ costByP z.1 t.1 t.2.2 = some v
theorem step_ok (z : Tab × Bool) (t : Trip) : StepOk z (stepT z t) t := by
  have e : stepT z t = ((low1 z.1 (shw t.2.1, t.1.name) (costByP z.1 t.1 t.2.2)).1, z.2 || (low1 z.1 (shw t.2.1, t.1.name) (costByP z.1 t.1 t.2.2)).2) := rfl
  rcases low1_cases z.1 (shw t.2.1, t.1.name) (costByP z.1 t.1 t.2.2) with ⟨h1, h2⟩ | ⟨c, h1, h2, h3⟩
  · rw [h1] at e
    rw [e]
    refine ⟨tle.refl _, fun _ _ => rfl, fun hf => ?_, h2, fun v hv => .inl hv⟩
    have hf : (z.2 || false) = false := hf
    rw [Bool.or_false] at hf
    exact ⟨hf, rfl, h2⟩
  · rw [h3] at e
    rw [e]
    refine ⟨put_tle h2, fun k hk => ?_, fun hf => ?_, fun c' hc => ?_, fun v hv => ?_⟩
    · show look (put z.1 (shw t.2.1, t.1.name) c) k = _
      rw [look_put, if_neg hk]
    · have hf : (z.2 || true) = false := hf
      rw [Bool.or_true] at hf
      cases hf
    · rw [h1] at hc
      cases hc
      exact ⟨c, by show look (put z.1 (shw t.2.1, t.1.name) c) _ = _; rw [look_put, if_pos rfl], Int.le_refl _⟩
    · have hv : look (put z.1 (shw t.2.1, t.1.name) c) (shw t.2.1, t.1.name) = some v := hv
      rw [look_put, if_pos rfl] at hv
      exact .inr (by rw [h1, hv])
noncomputable def trip (rs : List RuleD) (pics : List Pic) : List Trip := rs.flatMap fun r => pics.flatMap fun p => (usesP r p).map fun u => (r, p, u)
theorem mem_trip {rs : List RuleD} {pics : List Pic} {t : Trip} : t ∈ trip rs pics ↔ t.1 ∈ rs ∧ t.2.1 ∈ pics ∧ t.2.2 ∈ usesP t.1 t.2.1 := by
  unfold trip
  constructor
  · intro h
    obtain ⟨r, hr, h⟩ := List.mem_flatMap.mp h
    obtain ⟨p, hp, h⟩ := List.mem_flatMap.mp h
    obtain ⟨u, hu, rfl⟩ := List.mem_map.mp h
    exact ⟨hr, hp, hu⟩
  · obtain ⟨r, p, u⟩ := t
    rintro ⟨h1, h2, h3⟩
    exact List.mem_flatMap.mpr ⟨r, h1, List.mem_flatMap.mpr ⟨p, h2, List.mem_map.mpr ⟨u, h3, rfl⟩⟩⟩
theorem lowS_flag (r : RuleD) (key : T2x) : ∀ (us : List Use) (M : Tab) (b : Bool), us.foldl (lowS r key) (M, b) = ((us.foldl (lowS r key) (M, false)).1, b || (us.foldl (lowS r key) (M, false)).2)
  | [], M, b => by simp
  | u :: us, M, b => by
    rw [List.foldl_cons, List.foldl_cons]
    have e1 : lowS r key (M, b) u = ((low1 M key (costByP M r u)).1, b || (low1 M key (costByP M r u)).2) := rfl
    have e2 : lowS r key (M, false) u = ((low1 M key (costByP M r u)).1, false || (low1 M key (costByP M r u)).2) := rfl
    rw [e1, e2, lowS_flag r key us _ (b || _), lowS_flag r key us _ (false || _)]
    simp only [Bool.false_or, Bool.or_assoc]
theorem passP_trip (rs : List RuleD) (pics : List Pic) : ∀ z, passP rs pics z = (trip rs pics).foldl stepT z := by
  have one : ∀ (r : RuleD) (p : Pic) (z : Tab × Bool), ((loweredP z.1 r p).1, z.2 || (loweredP z.1 r p).2) = ((usesP r p).map fun u => ((r, p, u) : Trip)).foldl stepT z := fun r p z => by
    rw [List.foldl_map]
    exact (lowS_flag r (shw p, r.name) (usesP r p) z.1 z.2).symm
  have two : ∀ (r : RuleD) (pics : List Pic) (z : Tab × Bool), lowAll r pics z = (pics.flatMap fun p => (usesP r p).map fun u => ((r, p, u) : Trip)).foldl stepT z := fun r pics => by
    induction pics with
    | nil => intro z; rfl
    | cons p pics ih =>
      intro z
      rw [List.flatMap_cons, List.foldl_append, ← one]
      exact ih _
  induction rs with
  | nil => intro z; rfl
  | cons r rs ih =>
    intro z
    unfold trip
    rw [List.flatMap_cons, List.foldl_append, ← two]
    exact ih _
structure RunOk (z y : Tab × Bool) (pics : List Pic) : Prop where
  le : tle z.1 y.1
  same : ∀ k, (∀ s ∈ pics, ∀ n, k ≠ ((shw s, n) : T2x)) → look y.1 k = look z.1 k
  flag : y.2 = false → z.2 = false ∧ y.1 = z.1
theorem run_ok {pics : List Pic} : ∀ (l : List Trip) (z : Tab × Bool), (∀ t ∈ l, t.2.1 ∈ pics) → RunOk z (l.foldl stepT z) pics
  | [], z, _ => ⟨tle.refl _, fun _ _ => rfl, fun h => ⟨h, rfl⟩⟩
  | t :: l, z, h => by
    have s := step_ok z t
    have ih := run_ok l (stepT z t) fun x hx => h x (List.mem_cons_of_mem _ hx)
    refine ⟨s.le.trans ih.le, fun k hk => (ih.same k hk).trans (s.same k (hk _ (h t (List.mem_cons_self ..)) _)), fun hf => ?_⟩
    obtain ⟨h1, h2⟩ := ih.flag hf
    obtain ⟨h3, h4, _⟩ := s.flag h1
    exact ⟨h3, h2.trans h4⟩
noncomputable def Att (rs : List RuleD) (S : List Pic) (M : Tab) : Prop := ∀ k v, look M k = some v → ∃ s ∈ S, ∃ r ∈ rs, k = (shw s, r.name) ∧ ∃ use ∈ usesP r s, ∃ c, costByP M r use = some c ∧ c ≤ v
theorem att_run {rs : List RuleD} {S : List Pic} : ∀ (l : List Trip) (z : Tab × Bool), (∀ t ∈ l, t.1 ∈ rs ∧ t.2.1 ∈ S ∧ t.2.2 ∈ usesP t.1 t.2.1) → Att rs S z.1 → Att rs S (l.foldl stepT z).1
  | [], _, _, h => h
  | t :: l, z, hl, h => by
    refine att_run l (stepT z t) (fun x hx => hl x (List.mem_cons_of_mem _ hx)) fun k v hv => ?_
    have s := step_ok z t
    obtain ⟨h1, h2, h3⟩ := hl t (List.mem_cons_self ..)
    have old : look z.1 k = some v → ∃ s ∈ S, ∃ r ∈ rs, k = (shw s, r.name) ∧ ∃ use ∈ usesP r s, ∃ c, costByP (stepT z t).1 r use = some c ∧ c ≤ v := fun hv => by
      obtain ⟨s', hs, r, hr, e, use, hu, c, hc, hcv⟩ := h k v hv
      obtain ⟨c', hc', hle⟩ := cost_mono s.le hc
      exact ⟨s', hs, r, hr, e, use, hu, c', hc', Int.le_trans hle hcv⟩
    by_cases hk : k = ((shw t.2.1, t.1.name) : T2x)
    · subst hk
      rcases s.new v hv with hv | hc
      · exact old hv
      · obtain ⟨c', hc', hle⟩ := cost_mono s.le hc
        exact ⟨t.2.1, h2, t.1, h1, rfl, t.2.2, h3, c', hc', hle⟩
    · rw [s.same k hk] at hv
      exact old hv
theorem run_at {pics : List Pic} {l : List Trip} {z : Tab × Bool} (hl : ∀ t ∈ l, t.2.1 ∈ pics) {t : Trip} (ht : t ∈ l) : ∃ x, RunOk z x pics ∧ RunOk (stepT x t) (l.foldl stepT z) pics := by
  obtain ⟨a, b, rfl⟩ := List.append_of_mem ht
  refine ⟨a.foldl stepT z, run_ok a z fun x hx => hl x (List.mem_append_left _ hx), ?_⟩
  rw [List.foldl_append]
  exact run_ok b (stepT (a.foldl stepT z) t) fun x hx => hl x (List.mem_append_right _ (List.mem_cons_of_mem _ hx))
noncomputable def Parted (pics : List Pic) (use : Use) : Prop := ∀ x ∈ use, ∀ s ∈ pics, shw x.1 ≠ shw s
theorem parted_same {pics : List Pic} {use : Use} (h : Parted pics use) {z y : Tab × Bool} (hr : RunOk z y pics) (r : RuleD) : costByP y.1 r use = costByP z.1 r use :=
  cost_same fun x hx => hr.same _ fun s hs n e => h x hx s hs (Prod.mk.inj e).1
theorem done_keep {pics : List Pic} {r : RuleD} {p : Pic} {use : Use} (h : Parted pics use) {z y : Tab × Bool} (hr : RunOk z y pics) (hd : Done z.1 r p use) : Done y.1 r p use := fun c hc => by
  rw [parted_same h hr] at hc
  obtain ⟨v, hv, hle⟩ := hd c hc
  obtain ⟨v', hv', hle'⟩ := hr.le _ _ hv
  exact ⟨v', hv', Int.le_trans hle' hle⟩
theorem RunOk.trans {pics : List Pic} {x y z : Tab × Bool} (h : RunOk x y pics) (h2 : RunOk y z pics) : RunOk x z pics :=
  ⟨h.le.trans h2.le, fun k hk => (h2.same k hk).trans (h.same k hk), fun hf => by
    obtain ⟨h3, h4⟩ := h2.flag hf
    obtain ⟨h5, h6⟩ := h.flag h3
    exact ⟨h5, h4.trans h6⟩⟩
theorem pass_done {pics : List Pic} {l : List Trip} {z : Tab × Bool} (hl : ∀ t ∈ l, t.2.1 ∈ pics) {t : Trip} (ht : t ∈ l) (hp : Parted pics t.2.2) : Done (l.foldl stepT z).1 t.1 t.2.1 t.2.2 := by
  obtain ⟨x, h1, h2⟩ := run_at (z := z) hl ht
  have s := step_ok x t
  have hx : RunOk x (stepT x t) pics := by
    have := run_ok [t] x (pics := pics) fun y hy => by rw [List.mem_singleton.mp hy]; exact hl t ht
    exact this
  intro c hc
  rw [parted_same hp (hx.trans h2)] at hc
  obtain ⟨v, hv, hle⟩ := s.due c hc
  obtain ⟨v', hv', hle'⟩ := h2.le _ _ hv
  exact ⟨v', hv', Int.le_trans hle' hle⟩
theorem round_done {pics : List Pic} {l : List Trip} {z : Tab × Bool} (hl : ∀ t ∈ l, t.2.1 ∈ pics) (hf : (l.foldl stepT z).2 = false) {t : Trip} (ht : t ∈ l) : Done (l.foldl stepT z).1 t.1 t.2.1 t.2.2 := by
  obtain ⟨x, h1, h2⟩ := run_at (z := z) hl ht
  have s := step_ok x t
  obtain ⟨h3, h4⟩ := h2.flag hf
  obtain ⟨_, h6, h7⟩ := s.flag h3
  rw [h4, h6]
  exact h7
structure GroupOk (rs : List RuleD) (S pics : List Pic) (M M' : Tab) : Prop where
  run : tle M M'
  same : ∀ k, (∀ s ∈ pics, ∀ n, k ≠ ((shw s, n) : T2x)) → look M' k = look M k
  att : Att rs S M → Att rs S M'
  done : ∀ r ∈ rs, ∀ s ∈ pics, ∀ use ∈ usesP r s, Done M' r s use
theorem group_ok {rs : List RuleD} {S pics : List Pic} (hS : ∀ s ∈ pics, s ∈ S) {M M' : Tab} (h : Settled rs pics M M') (hpart : ∀ r ∈ rs, isTurn r = false → ∀ s ∈ pics, ∀ use ∈ usesP r s, Parted pics use) : GroupOk rs S pics M M' := by
  obtain ⟨n, e, hf⟩ := h
  have l1 : ∀ (ts : List RuleD), ∀ t ∈ trip ts pics, t.2.1 ∈ pics := fun ts t ht => (mem_trip.mp ht).2.1
  have r1 : RunOk (M, false) (passP (rs.filter fun r => !isTurn r) pics (M, false)) pics := by rw [passP_trip]; exact run_ok _ _ (l1 _)
  have rN : ∀ m (M1 : Tab), ∃ b, RunOk (M1, b) (iterT (rs.filter isTurn) pics m M1, b) pics := fun m => by
    induction m with
    | zero => intro M1; exact ⟨true, tle.refl _, fun _ _ => rfl, fun h => ⟨h, rfl⟩⟩
    | succ m ih =>
      intro M1
      obtain ⟨b, hb⟩ := ih M1
      have : RunOk (iterT (rs.filter isTurn) pics m M1, false) (passP (rs.filter isTurn) pics (iterT (rs.filter isTurn) pics m M1, false)) pics := by rw [passP_trip]; exact run_ok _ _ (l1 _)
      exact ⟨true, hb.le.trans this.le, fun k hk => (this.same k hk).trans (hb.same k hk), fun h => nomatch h⟩
  obtain ⟨b, hb⟩ := rN (n + 1) (firstPass rs pics M)
  rw [← e] at hb
  have aN : ∀ m (M1 : Tab), Att rs S M1 → Att rs S (iterT (rs.filter isTurn) pics m M1) := fun m => by
    induction m with
    | zero => intro M1 h; exact h
    | succ m ih =>
      intro M1 h
      show Att rs S (passP (rs.filter isTurn) pics (iterT (rs.filter isTurn) pics m M1, false)).1
      rw [passP_trip]
      exact att_run _ _ (fun t ht => by
        obtain ⟨h1, h2, h3⟩ := mem_trip.mp ht
        exact ⟨(List.mem_filter.mp h1).1, hS _ h2, h3⟩) (ih M1 h)
  refine ⟨r1.le.trans hb.le, fun k hk => (hb.same k hk).trans (r1.same k hk), fun ha => ?_, fun r hr s hs use hu => ?_⟩
  · rw [e]
    refine aN _ _ ?_
    show Att rs S (passP (rs.filter fun r => !isTurn r) pics (M, false)).1
    rw [passP_trip]
    exact att_run _ _ (fun t ht => by
      obtain ⟨h1, h2, h3⟩ := mem_trip.mp ht
      exact ⟨(List.mem_filter.mp h1).1, hS _ h2, h3⟩) ha
  · cases ht : isTurn r with
    | true =>
      have hlast : M' = ((trip (rs.filter isTurn) pics).foldl stepT (iterT (rs.filter isTurn) pics n (firstPass rs pics M), false)).1 := by
        rw [← passP_trip, e]; rfl
      have hf' : ((trip (rs.filter isTurn) pics).foldl stepT (iterT (rs.filter isTurn) pics n (firstPass rs pics M), false)).2 = false := by rw [← passP_trip]; exact hf
      rw [hlast]
      exact round_done (t := (r, s, use)) (l1 _) hf' (mem_trip.mpr ⟨List.mem_filter.mpr ⟨hr, ht⟩, hs, hu⟩)
    | false =>
      have hp := hpart r hr ht s hs use hu
      have h1 : Done (firstPass rs pics M) r s use := by
        show Done (passP (rs.filter fun r => !isTurn r) pics (M, false)).1 r s use
        rw [passP_trip]
        exact pass_done (t := (r, s, use)) (l1 _) (mem_trip.mpr ⟨List.mem_filter.mpr ⟨hr, by rw [ht]; rfl⟩, hs, hu⟩) hp
      exact done_keep hp hb h1
structure Least (rs : List RuleD) (S : List Pic) (M : Tab) : Prop where
  nd : (M.map (·.1)).Nodup
  pos : ∀ x ∈ M, 1 ≤ x.2
  att : Att rs S M
  done : ∀ r ∈ rs, ∀ s ∈ S, ∀ use ∈ usesP r s, Done M r s use
theorem tabled_ok {rs : List RuleD} {S : List Pic} (hpk : ∀ s ∈ S, NoSlash s ∧ ∃ r c, Pk s r c) : ∀ {gs : List (List Pic)} {M : Tab}, Tabled rs gs M → ∀ ks : List Int, gs = ks.map (grpF S) → ks.Pairwise (· ≤ ·) → ks.Nodup → Att rs S M ∧ ∀ r ∈ rs, ∀ s ∈ S, cellsOf s ∈ ks → ∀ use ∈ usesP r s, Done M r s use := by
  intro gs M h
  induction h with
  | nil =>
    intro ks e _ _
    have : ks = [] := List.map_eq_nil_iff.mp e.symm
    subst this
    exact ⟨(fun k v hv => by cases hv), fun r _ s _ hs => (List.not_mem_nil hs).elim⟩
  | @snoc gs pics M M' h s ih =>
    intro ks e hw hn
    obtain ⟨k0, kl, rfl, e1, e2⟩ := List.map_eq_append_iff.mp e.symm
    obtain ⟨k, rfl, ek⟩ : ∃ k, kl = [k] ∧ grpF S k = pics := by
      cases kl with
      | nil => cases e2
      | cons k kl =>
        cases kl with
        | nil => exact ⟨k, rfl, (List.cons.inj e2).1⟩
        | cons _ _ => cases (List.cons.inj e2).2
    rw [List.pairwise_append] at hw
    rw [List.nodup_append] at hn
    obtain ⟨ha, hd⟩ := ih k0 e1.symm hw.1 hn.1
    have hpm : ∀ s ∈ pics, s ∈ S ∧ cellsOf s = k := fun s hs => by
      rw [← ek] at hs
      exact ⟨(List.mem_filter.mp hs).1, of_decide_eq_true (List.mem_filter.mp hs).2⟩
    have part : ∀ r ∈ rs, ∀ s ∈ S, ∀ use ∈ usesP r s, (∀ x ∈ use, cellsOf x.1 < k) → Parted pics use := fun r hr s hs use hu hlt x hx s' hs' he => by
      obtain ⟨hns, rr, c, hpk1⟩ := hpk s hs
      obtain ⟨h1, _⟩ := use_parts hpk1 hns hu x hx
      obtain ⟨a, b, hpx⟩ := use_pk hpk1 hu x hx
      obtain ⟨hm, hk⟩ := hpm s' hs'
      obtain ⟨hns', a', b', hpk'⟩ := hpk s' hm
      have := shw_inj hpx hpk' h1 hns' he
      have := hlt x hx
      rw [‹x.1 = s'›, hk] at this
      exact Int.lt_irrefl _ this
    have g := group_ok (rs := rs) (fun s hs => (hpm s hs).1) s fun r hr ht s hs use hu => by
      obtain ⟨hm, hk⟩ := hpm s hs
      obtain ⟨hns, rr, c, hpk1⟩ := hpk s hm
      refine part r hr s hm use hu fun x hx => ?_
      have := (use_parts hpk1 hns hu x hx).2
      rw [if_neg (by rw [ht]; exact Bool.false_ne_true), hk] at this
      exact this
    refine ⟨g.att ha, fun r hr s hs hks use hu => ?_⟩
    rcases List.mem_append.mp hks with hks | hks
    · have hd0 := hd r hr s hs hks use hu
      have hlt : cellsOf s < k := by
        have h1 := hw.2.2 _ hks k (List.mem_singleton.mpr rfl)
        have h2 := hn.2.2 _ hks k (List.mem_singleton.mpr rfl)
        omega
      obtain ⟨hns, rr, c, hpk1⟩ := hpk s hs
      have hp : Parted pics use := part r hr s hs use hu fun x hx => by
        have := (use_parts hpk1 hns hu x hx).2
        split at this <;> omega
      intro c hc
      have : costByP M' r use = costByP M r use := cost_same fun x hx => g.same _ fun s' hs' n e => hp x hx s' hs' (Prod.mk.inj e).1
      rw [this] at hc
      obtain ⟨v, hv, hle⟩ := hd0 c hc
      obtain ⟨v', hv', hle'⟩ := g.run _ _ hv
      exact ⟨v', hv', Int.le_trans hle' hle⟩
    · have hk := List.mem_singleton.mp hks
      exact g.done r hr s (by rw [← ek]; exact List.mem_filter.mpr ⟨hs, decide_eq_true hk⟩) use hu
theorem TableOf.least {rs : List RuleD} {p : Pic} {r c : Nat} (hp : Pk p r c) (hs : NoSlash p) {M : Tab} (h : TableOf rs p r c M) : Least rs (seenL p r c) M := by
  obtain ⟨ks, h1, h2, h3, h4⟩ := h.run
  have := tabled_ok (fun s hs' => ⟨sg_seen hp hs (seenL_mem.mp hs'), seen_pk hp (seenL_mem.mp hs')⟩) h4 ks rfl h1 h2
  exact ⟨h.ok.nd, h.ok.pos, this.1, fun r hr s hs' use hu => this.2 r hr s hs' ((h3 _).mpr ⟨s, hs', rfl⟩) use hu⟩
theorem Least.exact {rs : List RuleD} {S : List Pic} {M : Tab} (h : Least rs S M) {k : T2x} {v : Int} (hv : look M k = some v) : ∃ s ∈ S, ∃ r ∈ rs, k = (shw s, r.name) ∧ ∃ use ∈ usesP r s, costByP M r use = some v := by
  obtain ⟨s, hs, r, hr, e, use, hu, c, hc, hle⟩ := h.att k v hv
  obtain ⟨v', hv', hle'⟩ := h.done r hr s hs use hu c hc
  rw [← e, hv] at hv'
  cases hv'
  have : c = v := by omega
  exact ⟨s, hs, r, hr, e, use, hu, by rw [hc, this]⟩
theorem windows_mem {r c t l b q : Nat} (h1 : t < b) (h2 : b ≤ r) (h3 : l < q) (h4 : q ≤ c) : win t l b q ∈ windows r c := by
  unfold windows winL winB winR
  refine List.mem_flatMap.mpr ⟨t, List.mem_range.mpr (by omega), List.mem_flatMap.mpr ⟨l, List.mem_range.mpr (by omega), List.mem_flatMap.mpr ⟨b - (t + 1), List.mem_range.mpr (by omega), List.mem_map.mpr ⟨q - (l + 1), List.mem_range.mpr (by omega), ?_⟩⟩⟩⟩
  rw [show t + 1 + (b - (t + 1)) = b by omega, show l + 1 + (q - (l + 1)) = q by omega]
noncomputable def RuleD.of (signs : Tx) (r : RuleD) : Prop := match r with
  | .cell _ _ s => ∃ d ∈ signs, s = [d]
  | _ => True
theorem badSign_of {signs : Tx} : ∀ {rs : List RuleD} {k : Nat}, (∀ r ∈ rs, r.signIn signs = true) → badSign signs k rs = none
  | [], _, _ => rfl
  | r :: rs, k, h => by
    unfold badSign
    rw [h r (List.mem_cons_self ..), if_pos rfl]
    exact badSign_of fun q hq => h q (List.mem_cons_of_mem _ hq)
theorem RuleD.of_in {signs : Tx} {r : RuleD} (h : r.of signs) : r.signIn signs = true := by
  cases r with
  | cell n c s =>
    obtain ⟨d, hd, rfl⟩ := h
    exact decide_eq_true hd
  | _ => rfl
theorem nodup_le2 {l : List Tx} : ∀ {m : List Tx}, l.Nodup → (∀ x ∈ l, x ∈ m) → l.length ≤ m.length := by
  induction l with
  | nil => intro m _ _; exact Nat.zero_le _
  | cons x l ih =>
    intro m nd sub
    rw [List.nodup_cons] at nd
    have hx := sub x (List.mem_cons_self ..)
    have h1 := ih (m := m.erase x) nd.2 fun y hy => (List.mem_erase_of_ne fun (e : y = x) => nd.1 (e ▸ hy)).mpr (sub y (List.mem_cons_of_mem _ hy))
    rw [List.length_erase_of_mem hx] at h1
    have := List.length_pos_of_mem hx
    rw [List.length_cons]
    omega
theorem addNew_nd {met : List Tx} {n : Tx} (h : met.Nodup) : (addNew met n).Nodup := by
  unfold addNew
  split
  · exact h
  · rename_i hn
    rw [List.nodup_append]
    refine ⟨h, by simp, fun a ha b hb e => ?_⟩
    rw [List.mem_singleton.mp hb] at e
    exact hn (e ▸ ha)
theorem addAll_nd : ∀ {ns met : List Tx}, met.Nodup → (ns.foldl addNew met).Nodup
  | [], _, h => h
  | n :: ns, met, h => addAll_nd (ns := ns) (addNew_nd h)
theorem metAll_nd : ∀ {rs : List RuleD} {met : List Tx}, met.Nodup → (rs.foldl metR met).Nodup
  | [], _, h => h
  | r :: rs, met, h => metAll_nd (rs := rs) (addAll_nd h)
theorem metL_nd (start : Tx) (rs : List RuleD) : (metL start rs).Nodup := metAll_nd (by simp)
theorem why_drawn {signs start : Tx} {names : List Tx} {rs : List RuleD} (h1 : signsOk signs = true) (h2 : isName start = true) (h3 : start ∈ names) (h4 : names.length ≤ 8) (h5 : rs.length ≤ 24) (h6 : ∀ r ∈ rs, r.of signs ∧ ∀ n ∈ r.name :: r.parts, n ∈ names) : whyG signs start rs = none := by
  have hb : badSign signs 0 rs = none := badSign_of fun r hr => RuleD.of_in (h6 r hr).1
  have hl : (metL start rs).length ≤ names.length := nodup_le2 (metL_nd _ _) fun x hx => by
    rcases metAll_mem.mp hx with z | ⟨r, hr, z⟩
    · rw [List.mem_singleton.mp z]; exact h3
    · exact (h6 r hr).2 x z
  unfold whyG
  rw [if_neg (by rw [h1]; decide), if_neg (by rw [h2]; decide)]
  unfold whyRules
  rw [if_neg (by omega), hb]
  show (if 8 < (metL start rs).length then _ else none) = none
  rw [if_neg (by omega)]
theorem sm_nodup : ∀ a < 26, ∀ st < 6, ∀ n < 5, ((List.range n).map fun k => 97 + (a + k * (1 + 2 * st)) % 26).Nodup := by decide +kernel
local macro_rules | `(tactic| walk_at "le") => `(tactic| repeat (first | exact le_nil | refine le_cons ?_ | refine le_no ?_))
theorem signs_good (a st n : Nat) (ha : a < 26) (hst : st < 6) (hn : n < 5) (h0 : 1 ≤ n) {x : Tx} (e : x = (List.range n).map fun k => 97 + (a + k * (1 + 2 * st)) % 26) : signsOk x = true := by
  have hl : x.length = n := by rw [e, List.length_map, List.length_range]
  have hin : ∀ y ∈ x, y ∈ smallTx := fun y hy => by
    rw [e] at hy
    obtain ⟨k, _, rfl⟩ := List.mem_map.mp hy
    have : ∀ m, m < 26 → smallTx[m]? = some (97 + m) := by decide +kernel
    exact List.mem_of_getElem? (this ((a + k * (1 + 2 * st)) % 26) (Nat.mod_lt _ (by decide)))
  unfold signsOk
  rw [decide_eq_true (show 1 ≤ x.length by omega), decide_eq_true (show x.length ≤ 4 by omega), decide_eq_true (show x.Nodup by rw [e]; exact sm_nodup a ha st hst n hn)]
  rw [show (x.all fun c => decide (c ∈ smallTx)) = true from List.all_eq_true.mpr fun y hy => decide_eq_true (hin y hy)]
  rfl
noncomputable abbrev onesT (x : Tx) : List Tx := x.map fun c => ([c] : Tx)
theorem flat_rep {k : Nat} {c : Nat} : (List.replicate k ([c] : Tx)).flatten = List.replicate k c := by
  induction k with
  | zero => rfl
  | succ k ih => rw [List.replicate_succ, List.flatten_cons, ih, List.replicate_succ]; rfl
set_option genInjectivity true in
inductive Tr where
  | node (n : Int) (ts : List Tr)
noncomputable def Tr.num : Tr → Int
  | .node n _ => n
noncomputable def Tr.subs : Tr → List Tr
  | .node _ ts => ts
mutual
noncomputable def Tr.d : Tr → Dy
  | .node n ts => .t (.i n :: Tr.ds ts)
noncomputable def Tr.ds : List Tr → List Dy
  | [] => []
  | t :: ts => t.d :: Tr.ds ts
end
theorem Tr.ds_map : ∀ ts : List Tr, Tr.ds ts = ts.map Tr.d
  | [] => by rw [Tr.ds]; rfl
  | t :: ts => by rw [Tr.ds, Tr.ds_map ts]; rfl
theorem Tr.d_eq : ∀ t : Tr, t.d = .t (.i t.num :: t.subs.map Tr.d)
  | .node n ts => by rw [Tr.d, Tr.ds_map]; rfl
noncomputable instance repTr : Rep Tr := repOfD Tr.d
noncomputable instance isdTr : IsD Tr := ⟨Tr.d, Iff.rfl⟩
mutual
noncomputable def Tr.dep : Tr → Nat
  | .node _ ts => Tr.deps ts + 1
noncomputable def Tr.deps : List Tr → Nat
  | [] => 0
  | t :: ts => max t.dep (Tr.deps ts)
end
theorem Tr.deps_mem {s : Tr} : ∀ {ts : List Tr}, s ∈ ts → s.dep ≤ Tr.deps ts
  | t :: ts, h => by
    rw [Tr.deps]
    rcases List.mem_cons.mp h with rfl | h
    · omega
    · have := Tr.deps_mem h; omega
theorem Tr.dep_pos : ∀ t : Tr, 0 < t.dep
  | .node n ts => by rw [Tr.dep]; omega
theorem Tr.dep_sub {t s : Tr} (h : s ∈ t.subs) : s.dep < t.dep := by
  cases t with
  | node n ts =>
    have := Tr.deps_mem (show s ∈ ts from h)
    rw [Tr.dep]
    omega
theorem atI_cons0 {A : Type} {x : A} {xs : List A} : atI (x :: xs) 0 = some x := atI_nat (xs := x :: xs) (j := 0) rfl
section
variable {X : Cx} {Γ : List Slot} {pos p p2 : Pos} {e a b : Expr} {t s : Tr}
theorem ev_num (h : EV X Γ e t) (hi : EV X Γ b (0 : Int)) (hp : autoParam (PlainIx b) Tw.aIR2) : EV X Γ (.Subscript e b pos) t.num := ev_ixY (α := Tr) (β := Int) h hi (Tr.d_eq t) atI_cons0 hp
theorem ev_tupTr (h : EV X Γ e t) : EV X Γ e (Tup.mk (Dy.i t.num :: t.subs.map Tr.d)) := ev_t (by have := ev_d h; rw [show (isdTr).d t = Tr.d t from rfl, Tr.d_eq] at this; exact this)
theorem ev_ofTup {xs : List Dy} (h : EV X Γ e (Tup.mk xs)) (q : t.d = .t xs) : EV X Γ e t := ev_u (α := Tr) (ev_ot h) q.symm
theorem ev_subs (h : EV X Γ e t) (hl : EV X Γ a (1 : Int)) : EV X Γ (.Subscript e (.Slice (some a) none none p2) pos) (Tup.mk t.subs) := by
  have h1 := ev_sliceT (p2 := p2) (pos := pos) (lo := some a) (hi := none) (o1 := some ((1 : Nat) : Int)) (o2 := none) (ev_tupTr h) hl trivial (whole_no 1 none (by decide) (by simp))
  refine ev_tt (α := Dy) (β := Tr) h1 ?_
  rw [cutL_from]
  show (t.subs.map Tr.d).map (fun x => x) = t.subs.map Tr.d
  exact List.map_id' _
end
local macro_rules | `(tactic| walk_at "le") => `(tactic| repeat (first | exact le_nil | refine le_cons ?_ | refine le_no ?_))
structure RowW where
  r : RuleD
noncomputable def RuleD.kdW : RuleD → Int
  | .cell .. => 0
  | .beside .. => 1
  | .above .. => 2
  | .turn .. => 3
noncomputable def RuleD.oneW : RuleD → Tx
  | .cell _ _ s => s
  | .beside _ _ a _ => a
  | .above _ _ a _ => a
  | .turn _ _ a _ => a
noncomputable def RuleD.otherW : RuleD → Dy
  | .cell _ _ _ => .s []
  | .beside _ _ _ b => .s b
  | .above _ _ _ b => .s b
  | .turn _ _ _ t => .i t
noncomputable def RowW.d (q : RowW) : Dy := .t [.i q.r.kdW, .s q.r.name, .i q.r.cost, .s q.r.oneW, q.r.otherW]
noncomputable instance repRowW : Rep RowW := repOfD RowW.d
noncomputable instance isdRowW : IsD RowW := ⟨RowW.d, Iff.rfl⟩
structure StW where
  t : Tr
  n : Tx
  p : Pic
  c : Int
noncomputable def StW.d (s : StW) : Dy := .t [s.t.d, .s s.n, .l (s.p.map .s), .i s.c]
noncomputable instance repStW : Rep StW := repOfD StW.d
noncomputable instance isdStW : IsD StW := ⟨StW.d, Iff.rfl⟩
section
variable {X : Cx} {Γ : List Slot} {pos p p2 : Pos} {e a b e1 e2 e3 e4 e5 : Expr} {q : StW} {r : RowW}
theorem ev_rowW {x1} {d5 : Dy} (h1 : EV X Γ e1 r.r.kdW) (h2 : EV X Γ e2 r.r.name) (h3 : EV X Γ e3 r.r.cost) (h4 : EV X Γ e4 r.r.oneW) (h5 : EV X Γ e5 d5) (hd : r.r.otherW = d5)
    (s1 : autoParam (starEach [e1, e2, e3, e4, e5] X.env = (false, eval e1 X.env) :: starEach [e2, e3, e4, e5] X.env) aStar) (s2 : autoParam (starEach [e2, e3, e4, e5] X.env = (false, eval e2 X.env) :: starEach [e3, e4, e5] X.env) aStar) (s3 : autoParam (starEach [e3, e4, e5] X.env = (false, eval e3 X.env) :: starEach [e4, e5] X.env) aStar) (s4 : autoParam (starEach [e4, e5] X.env = (false, eval e4 X.env) :: starEach [e5] X.env) aStar) (s5 : autoParam (starEach [e5] X.env = (false, eval e5 X.env) :: starEach [] X.env) aStar) :
    EV X Γ (.Tuple [e1, e2, e3, e4, e5] x1 pos) r := ev_u (α := RowW) (y := .t [.i r.r.kdW, .s r.r.name, .i r.r.cost, .s r.r.oneW, d5]) (ev_ot (ev_tupH (es_cons (ev_d (α := Int) h1) (es_cons (ev_d (α := Tx) h2) (es_cons (ev_d (α := Int) h3) (es_cons (ev_d (α := Tx) h4) (es_cons (ev_d (α := Dy) h5) es_nil s5) s4) s3) s2) s1))) (by subst hd; rfl)
end
set_option genInjectivity true in
inductive Der (rs : List RuleD) : Pic → Tx → Int → Prop
  | cell {n : Tx} {c : Int} {s : Tx} (h : RuleD.cell n c s ∈ rs) : Der rs [s] n c
  | turn {n : Tx} {c : Int} {a : Tx} {t : Int} {p : Pic} {r c' : Nat} {k : Int} (h : RuleD.turn n c a t ∈ rs) (hp : Pk p r c') (h0 : 0 ≤ t) (h7 : t ≤ 7) (d : Der rs p a k) : Der rs (turned p t.toNat) n (c + k)
  | side {n : Tx} {c : Int} {a b : Tx} {p q : Pic} {r c1 c2 : Nat} {k m : Int} (h : RuleD.beside n c a b ∈ rs) (hp : Pk p r c1) (hq : Pk q r c2) (d1 : Der rs p a k) (d2 : Der rs q b m) : Der rs (putT true p q) n (c + k + m)
  | over {n : Tx} {c : Int} {a b : Tx} {p q : Pic} {r1 r2 c' : Nat} {k m : Int} (h : RuleD.above n c a b ∈ rs) (hp : Pk p r1 c') (hq : Pk q r2 c') (d1 : Der rs p a k) (d2 : Der rs q b m) : Der rs (putT false p q) n (c + k + m)
theorem Der.mono {rs rs' : List RuleD} (h : ∀ q ∈ rs, q ∈ rs') {p : Pic} {n : Tx} {c : Int} (d : Der rs p n c) : Der rs' p n c := by
  induction d with
  | cell h1 => exact .cell (h _ h1)
  | turn h1 hp h0 h7 _ ih => exact .turn (h _ h1) hp h0 h7 ih
  | side h1 hp hq _ _ i1 i2 => exact .side (h _ h1) hp hq i1 i2
  | over h1 hp hq _ _ i1 i2 => exact .over (h _ h1) hp hq i1 i2
structure TreeOk (names : List Tx) (x : Tx) (most : Int) (rs : List RuleD) (s : StW) : Prop where
  pk : ∃ r c, Pk s.p r c
  few : cellsOf s.p ≤ most
  sg : ∀ y ∈ s.p, ∀ k ∈ y, k ∈ x
  nm : s.n ∈ names
  der : Der rs s.p s.n s.c
  dep : s.t.dep ≤ rs.length
theorem TreeOk.mono {names : List Tx} {x : Tx} {most : Int} {rs : List RuleD} {s : StW} (h : TreeOk names x most rs s) (q : RuleD) : TreeOk names x most (rs ++ [q]) s :=
  ⟨h.pk, h.few, h.sg, h.nm, h.der.mono fun _ hq => List.mem_append_left _ hq, by have := h.dep; rw [List.length_append]; omega⟩
noncomputable abbrev RowOk (names : List Tx) (x : Tx) (q : RuleD) : Prop := q.good = true ∧ q.of x ∧ ∀ n ∈ q.name :: q.parts, n ∈ names
structure GrwOk (names : List Tx) (x : Tx) (most : Int) (rows : List RowW) (trees : List StW) : Prop where
  len : trees.length = rows.length
  row : ∀ q ∈ rows, RowOk names x q.r
  tree : ∀ s ∈ trees, TreeOk names x most (rows.map RowW.r) s
theorem GrwOk.nil {names : List Tx} {x : Tx} {most : Int} : GrwOk names x most [] [] := ⟨rfl, fun _ h => (List.not_mem_nil h).elim, fun _ h => (List.not_mem_nil h).elim⟩
theorem GrwOk.add {names : List Tx} {x : Tx} {most : Int} {rows : List RowW} {trees : List StW} (h : GrwOk names x most rows trees) {q : RuleD} {s : StW} (hq : RowOk names x q) (hs : TreeOk names x most (rows.map RowW.r ++ [q]) s) : GrwOk names x most (rows ++ [⟨q⟩]) (trees ++ [s]) := by
  refine ⟨by rw [List.length_append, List.length_append, h.len]; rfl, fun z hz => ?_, fun z hz => ?_⟩
  · rcases List.mem_append.mp hz with hz | hz
    · exact h.row z hz
    · rw [List.mem_singleton.mp hz]; exact hq
  · rw [List.map_append]
    show TreeOk names x most (rows.map RowW.r ++ [q]) z
    rcases List.mem_append.mp hz with hz | hz
    · exact (h.tree z hz).mono q
    · rw [List.mem_singleton.mp hz]; exact hs
noncomputable def putO (kd : Int) (p q : Pic) : Option Pic :=
  if kd = 1 ∧ p.length = q.length then some (putT true p q) else if kd = 2 ∧ (p.headD []).length = (q.headD []).length then some (putT false p q) else none
noncomputable def gramLS : Tw.Spec := fun A P _ => ∃ (x st : Tx) (rows : List RowW), A = [vl (onesT x), vl st, vl rows] ∧ x.length ≤ 4 ∧ st.length ≤ 4 ∧ rows.length ≤ 24 ∧ (∀ q ∈ rows, q.r.good = true) ∧ whyG x st (rows.map RowW.r) = none ∧ P (rv (mkG x st (rows.map RowW.r)))
local macro_rules | `(tactic| walk_at "le") => `(tactic| repeat (first | exact le_nil | refine le_cons ?_ | refine le_no ?_))
section
variable {P : Program} {w : World} {K : PySem.W.Frag} {mg : Str → Option Value} {base : Heap}
theorem ok_law_grammar (T : Txt K mg) : Has P w K mg base 8 "_law_grammar" ["_law_signs_here", "_law_start", "_law_rules"] gramLS := by
  refine Has.of T.f_law_grammar sc_law_grammar (fun A Q R ⟨x, st, rows, e, _⟩ => by rw [e]; rfl) fun f cdv A outer s0 H E hr Γ Q R ⟨x, st, rows, e, l1, l2, l3, hg, hw, hq⟩ => ?_
  subst e
  refine st_setN 3 (en_nil RuleD) (fun ar => ?_) sc_law_grammar.nd
  refine st_for (xs := rows) (fun j Γ => Le Γ [vl (onesT x), vl st, vl rows, .lst repInst ar ((rows.take j).map RowW.r), .no, .no, .no, .no, .no]) (src_list (ev_var 2)) (tg_d5 (ζ := RowW) 4 5 6 7 8 (f1 := fun q => q.r.kdW) (f2 := fun q => q.r.name) (f3 := fun q => q.r.cost) (f4 := fun q => q.r.oneW) (f5 := fun q => q.r.otherW) (fun _ => rfl) (by decide) (by decide) (by decide) (by decide) (by decide) (by decide) (by decide) (by decide) (by decide) (by decide)) Le.refl
    (fun j q Γ1 hj hP => ?_) (fun Γ1 hP => ?_) (pg5 4 5 6 7 8 (pgn 4 sc_law_grammar.nd) (pgn 5 sc_law_grammar.nd) (pgn 6 sc_law_grammar.nd) (pgn 7 sc_law_grammar.nd) (pgn 8 sc_law_grammar.nd))
  · obtain ⟨hlt, ex⟩ := List.getElem?_eq_some_iff.mp hj
    have hgq : q.r.good = true := hg q (ex ▸ List.getElem_mem hlt)
    refine st_le (((((hP.set 4 _).set 5 _).set 6 _).set 7 _).set 8 _) ?_
    have hs := RuleD.good_short hgq
    have hnext : (rows.take (j + 1)).map RowW.r = (rows.take j).map RowW.r ++ [q.r] := by rw [take_snoc hj, List.map_append]; rfl
    have hz : ((rows.take j).map RowW.r).length < sizeLine := lt_mid (by rw [List.length_map, List.length_take]; omega)
    rw [hnext]
    generalize (rows.take j).map RowW.r = rs at hz
    obtain ⟨r⟩ := q
    cases r with
    | cell n c s =>
      refine st_if (k := true) (et_eq (et_cmp o_eq (ev_var 4) ev_int) rfl) (fun _ => ?_) (fun h => nomatch h)
      refine st_append 3 (ad := ar) (xs := rs) (x := RuleD.cell n c s) (ev_good (mkx_cell T hr (ea_cons (x := n) (ev_var 5) (ea_cons (x := c) (ev_var 6) (ea_cons (x := s) (ev_var 7) ea_nil))) hs.1 hs.2) hgq) (st_nil (st_nil ?_)) hz
      walk_at "le"
    | beside n c a b =>
      refine st_if (k := false) (et_eq (et_cmp o_eq (ev_var 4) ev_int) rfl) (fun h => nomatch h) (fun _ => ?_)
      refine st_if (k := true) (et_eq (et_cmp o_eq (ev_var 4) ev_int) rfl) (fun _ => ?_) (fun h => nomatch h)
      refine st_append 3 (ad := ar) (xs := rs) (x := RuleD.beside n c a b) (ev_good (mkx_beside T hr (ea_cons (x := n) (ev_var 5) (ea_cons (x := c) (ev_var 6) (ea_cons (x := a) (ev_var 7) (ea_cons (x := b) (ev_u (α := Tx) (y := Dy.s b) (ev_var 8)) ea_nil)))) hs.1 hs.2.1 hs.2.2) hgq) (st_nil (st_nil (st_nil ?_))) hz
      walk_at "le"
    | above n c a b =>
      refine st_if (k := false) (et_eq (et_cmp o_eq (ev_var 4) ev_int) rfl) (fun h => nomatch h) (fun _ => ?_)
      refine st_if (k := false) (et_eq (et_cmp o_eq (ev_var 4) ev_int) rfl) (fun h => nomatch h) (fun _ => ?_)
      refine st_if (k := true) (et_eq (et_cmp o_eq (ev_var 4) ev_int) rfl) (fun _ => ?_) (fun h => nomatch h)
      refine st_append 3 (ad := ar) (xs := rs) (x := RuleD.above n c a b) (ev_good (mkx_above T hr (ea_cons (x := n) (ev_var 5) (ea_cons (x := c) (ev_var 6) (ea_cons (x := a) (ev_var 7) (ea_cons (x := b) (ev_u (α := Tx) (y := Dy.s b) (ev_var 8)) ea_nil)))) hs.1 hs.2.1 hs.2.2) hgq) (st_nil (st_nil (st_nil (st_nil ?_)))) hz
      walk_at "le"
    | turn n c a t =>
      refine st_if (k := false) (et_eq (et_cmp o_eq (ev_var 4) ev_int) rfl) (fun h => nomatch h) (fun _ => ?_)
      refine st_if (k := false) (et_eq (et_cmp o_eq (ev_var 4) ev_int) rfl) (fun h => nomatch h) (fun _ => ?_)
      refine st_if (k := false) (et_eq (et_cmp o_eq (ev_var 4) ev_int) rfl) (fun h => nomatch h) (fun _ => ?_)
      refine st_append 3 (ad := ar) (xs := rs) (x := RuleD.turn n c a t) (ev_good (mkx_turn T hr (ea_cons (x := n) (ev_var 5) (ea_cons (x := c) (ev_var 6) (ea_cons (x := a) (ev_var 7) (ea_cons (x := t) (ev_u (α := Int) (y := Dy.i t) (ev_var 8)) ea_nil)))) hs.1 hs.2) hgq) (st_nil (st_nil (st_nil (st_nil ?_)))) hz
      walk_at "le"
  · rw [List.take_length] at hP
    refine st_le hP (st_freeze 3 (frozL (i := repInst)) ?_)
    exact st_retV (ev_mkG T hr (ea_cons (x := x) (ev_eq (y := x) (ev_join (xs := onesT x) (ev_str "") (ev_var 0) (by
      show _ + _ * 0 ≤ _
      rw [show (onesT x).map (·.length) = (x.map fun c => ([c] : Tx)).map (·.length) from rfl, sum_ones]; exact sl_small (by omega))) joinL_one) (ea_cons (x := st) (ev_var 1) (ea_cons (x := rows.map RowW.r) (ev_var 3) ea_nil))) (fun r hr' => by obtain ⟨q, hq', rfl⟩ := List.mem_map.mp hr'; exact hg q hq') hw (by omega) (by omega) (by rw [List.length_map]; omega)) hq
end
local macro_rules | `(tactic| walk_at "le") => `(tactic| repeat (first | exact le_nil | refine le_cons ?_ | refine le_no ?_))
local macro_rules | `(tactic| walk_at "le") => `(tactic| repeat (first | exact le_nil | refine le_cons ?_ | refine le_no ?_))
theorem costAcc_parts {K : List T2x} {M M' : Tab} (hM : ∀ x ∈ M, 1 ≤ x.2) : ∀ (u : Use) (t c : Int), 1 ≤ t → costAcc M t u = some c → (∀ x ∈ u, ∀ v, look M (shw x.1, x.2) = some v → v < c → ∃ v', look M' (shw x.1, x.2) = some v' ∧ v' ≤ v) → ∃ c', costAcc M' t u = some c' ∧ c' ≤ c := by
  have key : ∀ (u : Use) (t t' c : Int), 1 ≤ t → t' ≤ t → costAcc M t u = some c → (∀ x ∈ u, ∀ v, look M (shw x.1, x.2) = some v → v < c → ∃ v', look M' (shw x.1, x.2) = some v' ∧ v' ≤ v) → t ≤ c ∧ ∃ c', costAcc M' t' u = some c' ∧ c' ≤ c := by
    intro u
    induction u with
    | nil =>
      intro t t' c h1 ht e _
      simp only [costAcc, Option.some.injEq] at e
      exact ⟨by omega, t', rfl, by omega⟩
    | cons x u ih =>
      intro t t' c h1 ht e h
      simp only [costAcc] at e
      split at e
      · cases e
      · rename_i v hl
        have hv1 : 1 ≤ v := hM _ (look_mem hl)
        have h0 := ih (t + v) (t + v) c (by omega) (Int.le_refl _) e fun y hy => h y (List.mem_cons_of_mem _ hy)
        obtain ⟨v', hv', hle⟩ := h x (List.mem_cons_self ..) v hl (by omega)
        obtain ⟨_, c', hc', hcc⟩ := ih (t + v) (t' + v') c (by omega) (by omega) e fun y hy => h y (List.mem_cons_of_mem _ hy)
        exact ⟨by omega, c', by simp only [costAcc, hv']; exact hc', hcc⟩
  intro u t c h1 e h
  exact (key u t t c h1 (Int.le_refl _) e h).2
theorem least_le {rs : List RuleD} (hcost : ∀ r ∈ rs, 1 ≤ r.cost) {S S' : List Pic} (hS : ∀ s ∈ S, s ∈ S') {M M' : Tab} (h : Least rs S M) (h' : Least rs S' M') : ∀ (n : Nat) (k : T2x) (v : Int), v.toNat ≤ n → look M k = some v → ∃ v', look M' k = some v' ∧ v' ≤ v := by
  intro n
  induction n with
  | zero =>
    intro k v hn hv
    have := h.pos _ (look_mem hv)
    have : (1 : Int) ≤ v := this
    omega
  | succ n ih =>
    intro k v hn hv
    obtain ⟨s, hs, r, hr, e, use, hu, hc⟩ := h.exact hv
    obtain ⟨c', hc', hle⟩ := costAcc_parts (K := []) (M' := M') h.pos use r.cost v (hcost r hr) hc fun x _ w hw hlt => ih _ w (by have : (1 : Int) ≤ w := h.pos _ (look_mem hw); omega) hw
    obtain ⟨v', hv', hle'⟩ := h'.done r hr s (hS s hs) use hu c' hc'
    exact ⟨v', by rw [e]; exact hv', by omega⟩
theorem least_same {rs : List RuleD} (hcost : ∀ r ∈ rs, 1 ≤ r.cost) {S S' : List Pic} (hS : ∀ s, s ∈ S ↔ s ∈ S') {M M' : Tab} (h : Least rs S M) (h' : Least rs S' M') : M.length = M'.length ∧ ∀ x ∈ M, look M' x.1 = some x.2 := by
  have fwd : ∀ k v, look M k = some v → look M' k = some v := fun k v hv => by
    obtain ⟨v', hv', h1⟩ := least_le hcost (fun s => (hS s).mp) h h' _ k v (Nat.le_refl _) hv
    obtain ⟨v2, hv2, h2⟩ := least_le hcost (fun s => (hS s).mpr) h' h _ k v' (Nat.le_refl _) hv'
    rw [hv] at hv2
    cases hv2
    have : v' = v := by omega
    rw [hv', this]
  have bwd : ∀ k v, look M' k = some v → look M k = some v := fun k v hv => by
    obtain ⟨v', hv', h1⟩ := least_le hcost (fun s => (hS s).mpr) h' h _ k v (Nat.le_refl _) hv
    obtain ⟨v2, hv2, h2⟩ := least_le hcost (fun s => (hS s).mp) h h' _ k v' (Nat.le_refl _) hv'
    rw [hv] at hv2
    cases hv2
    have : v' = v := by omega
    rw [hv', this]
  have len : ∀ {A B : Tab}, (A.map (·.1)).Nodup → (∀ k v, look A k = some v → look B k = some v) → A.length ≤ B.length := fun {A B} nd f => by
    have := nodup_leB (m := B.map (·.1)) nd fun k hk => by
      obtain ⟨x, hx, rfl⟩ := List.mem_map.mp hk
      exact List.mem_map.mpr ⟨_, look_mem (f _ _ (look_of_mem nd hx)), rfl⟩
    rwa [List.length_map, List.length_map] at this
  exact ⟨Nat.le_antisymm (len h.nd fwd) (len h'.nd bwd), fun x hx => fwd _ _ (look_of_mem h.nd hx)⟩
structure SeenI (p : Pic) (r c : Nat) (C : Nat → Nat → Nat → Nat → Nat → Prop) (l : List (Tx × Pic)) : Prop where
  nd : (l.map (·.1)).Nodup
  key : ∀ x ∈ l, x.1 = shw x.2 ∧ x.2 ∈ seenAll p r c
  cov : ∀ t b lf q k, t < b → b ≤ r → lf < q → q ≤ c → k < 8 → C t b lf q k → ∃ x ∈ l, x.1 = shw (turned (cutOut p t lf b q) k)
theorem SeenI.nil {p : Pic} {r c : Nat} : SeenI p r c (fun _ _ _ _ _ => False) [] := ⟨List.nodup_nil, fun _ h => (List.not_mem_nil h).elim, fun _ _ _ _ _ _ _ _ _ _ h => h.elim⟩
theorem SeenI.mono {p : Pic} {r c : Nat} {C C' : Nat → Nat → Nat → Nat → Nat → Prop} {l : List (Tx × Pic)} (h : SeenI p r c C l) (f : ∀ t b lf q k, t < b → b ≤ r → lf < q → q ≤ c → k < 8 → C' t b lf q k → C t b lf q k) : SeenI p r c C' l :=
  ⟨h.nd, h.key, fun t b lf q k h1 h2 h3 h4 h5 h6 => h.cov t b lf q k h1 h2 h3 h4 h5 (f t b lf q k h1 h2 h3 h4 h5 h6)⟩
theorem SeenI.put {p : Pic} {r c : Nat} {C : Nat → Nat → Nat → Nat → Nat → Prop} {l : List (Tx × Pic)} (h : SeenI p r c C l) {t b lf q k : Nat} (h1 : t < b) (h2 : b ≤ r) (h3 : lf < q) (h4 : q ≤ c) (h5 : k < 8) : SeenI p r c (fun t' b' lf' q' k' => C t' b' lf' q' k' ∨ (t' = t ∧ b' = b ∧ lf' = lf ∧ q' = q ∧ k' = k)) (put l (shw (turned (cutOut p t lf b q) k)) (turned (cutOut p t lf b q) k)) := by
  have hs : turned (cutOut p t lf b q) k ∈ seenAll p r c := seenAll_mem.mpr ⟨win t lf b q, windows_mem h1 h2 h3 h4, k, h5, rfl⟩
  have keep : ∀ y ∈ l.map (·.1), y ∈ (Tw.put l (shw (turned (cutOut p t lf b q) k)) (turned (cutOut p t lf b q) k)).map (·.1) := fun y hy => by
    rw [put_keys]
    split
    · exact hy
    · exact List.mem_append_left _ hy
  refine ⟨put_nodup h.nd, fun x hx => ?_, fun t' b' lf' q' k' g1 g2 g3 g4 g5 hC => ?_⟩
  · rcases put_mem hx with rfl | hx
    · exact ⟨rfl, hs⟩
    · exact h.key x hx
  · rcases hC with hC | ⟨rfl, rfl, rfl, rfl, rfl⟩
    · obtain ⟨x, hx, e⟩ := h.cov t' b' lf' q' k' g1 g2 g3 g4 g5 hC
      obtain ⟨y, hy, e2⟩ := List.mem_map.mp (keep x.1 (List.mem_map.mpr ⟨x, hx, rfl⟩))
      exact ⟨y, hy, by rw [e2, e]⟩
    · exact ⟨(shw (turned (cutOut p t' lf' b' q') k'), turned (cutOut p t' lf' b' q') k'), look_mem (by rw [look_put, if_pos rfl]), rfl⟩
theorem SeenI.len {p : Pic} {r c : Nat} (hr : r ≤ 6) (hc : c ≤ 6) {C : Nat → Nat → Nat → Nat → Nat → Prop} {l : List (Tx × Pic)} (h : SeenI p r c C l) : l.length ≤ 10368 := by
  have := nodup_leB (m := (seenAll p r c).map shw) h.nd fun k hk => by
    obtain ⟨x, hx, rfl⟩ := List.mem_map.mp hk
    exact List.mem_map.mpr ⟨x.2, (h.key x hx).2, (h.key x hx).1.symm⟩
  rw [List.length_map, List.length_map] at this
  have := seenAll_len (p := p) hr hc
  omega
theorem SeenI.all {p : Pic} {r c : Nat} (hp : Pk p r c) (hs : NoSlash p) {l : List (Tx × Pic)} (h : SeenI p r c (fun _ _ _ _ _ => True) l) (s : Pic) : s ∈ l.map (·.2) ↔ s ∈ seenAll p r c := by
  constructor
  · intro hm
    obtain ⟨x, hx, rfl⟩ := List.mem_map.mp hm
    exact (h.key x hx).2
  · intro hm
    obtain ⟨x, hx, t, ht, rfl⟩ := seenAll_mem.mp hm
    obtain ⟨t', lf, b, q, rfl, h1, h2, h3, h4⟩ := mem_windows hx
    obtain ⟨y, hy, e⟩ := h.cov t' b lf q t h1 h2 h3 h4 ht trivial
    obtain ⟨e1, e2⟩ := h.key y hy
    obtain ⟨a, b', hpk⟩ := seen_pk hp e2
    obtain ⟨a2, b2, hpk2⟩ := seen_pk hp hm
    have hsh : shw y.2 = shw (turned (winPic p (win t' lf b q)) t) := by rw [← e1, e, winPic_win]
    have := shw_inj hpk hpk2 (sg_seen (Φ := fun k => k ≠ 47) hp hs e2) (sg_seen (Φ := fun k => k ≠ 47) hp hs hm) hsh
    exact List.mem_map.mpr ⟨y, hy, this⟩
theorem range_cut {A : Type} (g : Nat → A) {n a m : Nat} (h : a + m ≤ n) : (((List.range n).map g).drop a).take m = (List.range m).map fun i => g (a + i) := by
  apply List.ext_getElem?
  intro i
  rw [List.getElem?_take]
  by_cases hi : i < m
  · rw [if_pos hi, List.getElem?_drop, List.getElem?_map, List.getElem?_map, List.getElem?_range (by omega), List.getElem?_range hi]; rfl
  · rw [if_neg hi, List.getElem?_eq_none (by rw [List.length_map, List.length_range]; omega)]
theorem cut_mk {r c t l b q : Nat} (f : Nat → Nat → Nat) (h1 : t ≤ b) (h2 : b ≤ r) (h3 : l ≤ q) (h4 : q ≤ c) : cutOut (mkPic r c f) t l b q = mkPic (b - t) (q - l) fun i j => f (t + i) (l + j) := by
  unfold cutOut mkPic
  rw [range_cut _ (by omega), List.map_map]
  exact List.map_congr_left fun i _ => range_cut _ (by omega)
theorem cut_cut {p : Pic} {r c t l b q t' l' b' q' : Nat} (hp : Pk p r c) (h1 : t ≤ b) (h2 : b ≤ r) (h3 : l ≤ q) (h4 : q ≤ c) (g1 : t' ≤ b') (g2 : b' ≤ b - t) (g3 : l' ≤ q') (g4 : q' ≤ q - l) : cutOut (cutOut p t l b q) t' l' b' q' = cutOut p (t + t') (l + l') (t + b') (l + q') := by
  rw [hp.mk', cut_mk _ h1 h2 h3 h4, cut_mk _ g1 g2 g3 g4, cut_mk _ (by omega) (by omega) (by omega) (by omega)]
  rw [show t + b' - (t + t') = b' - t' by omega, show l + q' - (l + l') = q' - l' by omega]
  exact mkPic_congr fun i j _ _ => by rw [Nat.add_assoc, Nat.add_assoc]
theorem cut_quarter {p : Pic} {r c t l b q : Nat} (hp : Pk p r c) (h1 : t < b) (h2 : b ≤ c) (h3 : l < q) (h4 : q ≤ r) : cutOut (quarter p) t l b q = quarter (cutOut p (r - q) t (r - l) b) := by
  have h0 := hp.r0
  rw [hp.mk', mkPic_quarter h0, cut_mk _ (by omega) h2 (by omega) h4, cut_mk _ (by omega) (by omega) (by omega) (by omega), mkPic_quarter (by omega)]
  rw [show r - l - (r - q) = q - l by omega]
  exact mkPic_congr fun i j _ _ => by rw [show r - q + (q - l - 1 - j) = r - 1 - (l + j) by omega]
theorem cut_mirrored {p : Pic} {r c t l b q : Nat} (hp : Pk p r c) (h1 : t < b) (h2 : b ≤ r) (h3 : l < q) (h4 : q ≤ c) : cutOut (mirrored p) t l b q = mirrored (cutOut p t (c - q) b (c - l)) := by
  rw [hp.mk', mkPic_mirrored, cut_mk _ (by omega) h2 (by omega) h4, cut_mk _ (by omega) (by omega) (by omega) (by omega), mkPic_mirrored]
  rw [show c - l - (c - q) = q - l by omega]
  exact mkPic_congr fun i j _ _ => by rw [show c - q + (q - l - 1 - j) = c - 1 - (l + j) by omega]
theorem cut_quarters {p : Pic} {r c : Nat} (hp : Pk p r c) : ∀ (n t l b q : Nat), t < b → b ≤ (if n % 2 = 0 then r else c) → l < q → q ≤ (if n % 2 = 0 then c else r) → ∃ t' l' b' q', t' < b' ∧ b' ≤ r ∧ l' < q' ∧ q' ≤ c ∧ cutOut (quarters n p) t l b q = quarters n (cutOut p t' l' b' q') := by
  intro n
  induction n with
  | zero => intro t l b q h1 h2 h3 h4; exact ⟨t, l, b, q, h1, h2, h3, h4, rfl⟩
  | succ n ih =>
    intro t l b q h1 h2 h3 h4
    have hq := hp.quarters n
    have e1 : (if n % 2 = 0 then r else c) = (if (n + 1) % 2 = 0 then c else r) := by
      rcases Nat.mod_two_eq_zero_or_one n with h | h
      · rw [if_pos h, if_neg (by omega)]
      · rw [if_neg (by omega), if_pos (by omega)]
    have e2 : (if n % 2 = 0 then c else r) = (if (n + 1) % 2 = 0 then r else c) := by
      rcases Nat.mod_two_eq_zero_or_one n with h | h
      · rw [if_pos h, if_neg (by omega)]
      · rw [if_neg (by omega), if_pos (by omega)]
    rw [e1, e2] at hq
    obtain ⟨t', l', b', q', g1, g2, g3, g4, e⟩ := ih ((if (n + 1) % 2 = 0 then c else r) - q) t ((if (n + 1) % 2 = 0 then c else r) - l) b (by omega) (by rw [e1]; omega) h1 (by rw [e2]; exact h2)
    refine ⟨t', l', b', q', g1, g2, g3, g4, ?_⟩
    show cutOut (quarter (quarters n p)) t l b q = quarter (quarters n (cutOut p t' l' b' q'))
    rw [cut_quarter hq h1 h2 h3 h4, e]
theorem cut_turned {p : Pic} {r c : Nat} (hp : Pk p r c) {k t l b q : Nat} (h1 : t < b) (h2 : b ≤ (if k % 2 = 0 then r else c)) (h3 : l < q) (h4 : q ≤ (if k % 2 = 0 then c else r)) : ∃ t' l' b' q', t' < b' ∧ b' ≤ r ∧ l' < q' ∧ q' ≤ c ∧ cutOut (turned p k) t l b q = turned (cutOut p t' l' b' q') k := by
  have ek : k % 4 % 2 = k % 2 := by omega
  unfold turned
  by_cases hk : 4 ≤ k
  · rw [if_pos hk]
    obtain ⟨t', l', b', q', g1, g2, g3, g4, e⟩ := cut_quarters hp.mirrored (k % 4) t l b q h1 (by rw [ek]; exact h2) h3 (by rw [ek]; exact h4)
    refine ⟨t', c - q', b', c - l', g1, g2, by omega, by omega, ?_⟩
    rw [e, if_pos hk, cut_mirrored hp g1 g2 g3 g4]
  · rw [if_neg hk]
    obtain ⟨t', l', b', q', g1, g2, g3, g4, e⟩ := cut_quarters hp (k % 4) t l b q h1 (by rw [ek]; exact h2) h3 (by rw [ek]; exact h4)
    exact ⟨t', l', b', q', g1, g2, g3, g4, by rw [e, if_neg hk]⟩
theorem turned_lt (p : Pic) (k : Nat) : ∃ j < 8, turned p k = turned p j := by
  by_cases hk : 4 ≤ k
  · exact ⟨4 + k % 4, by omega, by unfold turned; rw [if_pos hk, if_pos (by omega), show (4 + k % 4) % 4 = k % 4 by omega]⟩
  · exact ⟨k, by omega, rfl⟩
theorem seen_iff {p : Pic} {r c : Nat} {s : Pic} : s ∈ seenAll p r c ↔ ∃ t l b q k, t < b ∧ b ≤ r ∧ l < q ∧ q ≤ c ∧ k < 8 ∧ s = turned (cutOut p t l b q) k := by
  rw [seenAll_mem]
  constructor
  · rintro ⟨x, hx, k, hk, e⟩
    obtain ⟨t, l, b, q, rfl, h1, h2, h3, h4⟩ := mem_windows hx
    exact ⟨t, l, b, q, k, h1, h2, h3, h4, hk, by rw [e, winPic_win]⟩
  · rintro ⟨t, l, b, q, k, h1, h2, h3, h4, hk, e⟩
    exact ⟨win t l b q, windows_mem h1 h2 h3 h4, k, hk, by rw [winPic_win]; exact e⟩
theorem Pk.uniq {p : Pic} {r c r' c' : Nat} (h : Pk p r c) (h' : Pk p r' c') : r = r' ∧ c = c' := by
  obtain ⟨x, q, e, hx⟩ := h.hd
  exact ⟨h.len.symm.trans h'.len, hx.symm.trans (h'.row x (by rw [e]; exact List.mem_cons_self ..))⟩
theorem seen_trans {p : Pic} {r c : Nat} (hp : Pk p r c) {x : Pic} (hx : x ∈ seenAll p r c) {r' c' : Nat} (hxp : Pk x r' c') {s : Pic} (hs : s ∈ seenAll x r' c') : s ∈ seenAll p r c := by
  obtain ⟨t, l, b, q, k, h1, h2, h3, h4, hk, rfl⟩ := seen_iff.mp hx
  obtain ⟨t', l', b', q', k', g1, g2, g3, g4, hk', rfl⟩ := seen_iff.mp hs
  have hc := hp.cut h1 h2 h3 h4
  obtain ⟨e1, e2⟩ := hxp.uniq (hc.turned k)
  obtain ⟨t2, l2, b2, q2, f1, f2, f3, f4, e⟩ := cut_turned hc (k := k) g1 (by rw [← e1]; exact g2) g3 (by rw [← e2]; exact g4)
  rw [cut_cut hp (Nat.le_of_lt h1) h2 (Nat.le_of_lt h3) h4 (Nat.le_of_lt f1) f2 (Nat.le_of_lt f3) f4] at e
  have hc2 := hp.cut (show t + t2 < t + b2 by omega) (show t + b2 ≤ r by omega) (show l + l2 < l + q2 by omega) (show l + q2 ≤ c by omega)
  exact seen_iff.mpr ⟨t + t2, l + l2, t + b2, l + q2, afterN k k', by omega, by omega, by omega, by omega, afterN_lt, by rw [e, turned_after hc2 hk hk']⟩
theorem cut_whole {p : Pic} {r c : Nat} (hp : Pk p r c) : cutOut p 0 0 r c = p := by
  rw [hp.mk', cut_mk _ (Nat.zero_le _) (Nat.le_refl _) (Nat.zero_le _) (Nat.le_refl _)]
  exact mkPic_congr fun i j _ _ => by rw [Nat.zero_add, Nat.zero_add]
theorem seen_turn {p : Pic} {r c : Nat} (hp : Pk p r c) (k : Nat) : turned p k ∈ seenAll p r c := by
  obtain ⟨j, hj, e⟩ := turned_lt p k
  exact seen_iff.mpr ⟨0, 0, r, c, j, hp.r0, Nat.le_refl _, hp.c0, Nat.le_refl _, hj, by rw [cut_whole hp]; exact e⟩
theorem seen_self {p : Pic} {r c : Nat} (hp : Pk p r c) : p ∈ seenAll p r c := by
  have := seen_turn hp 0
  rwa [turned_zero] at this
theorem seen_part {p : Pic} {r c : Nat} (hp : Pk p r c) (s : Bool) {n : Nat} (h0 : 0 < n) (h1 : n < if s then c else r) : partA s p n ∈ seenAll p r c ∧ partB s p n ∈ seenAll p r c := by
  have hl := hp.len
  have hr0 := hp.r0
  have hc0 := hp.c0
  cases s with
  | true =>
    have h1 : n < c := h1
    refine ⟨seen_iff.mpr ⟨0, 0, r, n, 0, hr0, Nat.le_refl _, h0, by omega, by decide, ?_⟩, seen_iff.mpr ⟨0, n, r, c, 0, hr0, Nat.le_refl _, h1, Nat.le_refl _, by decide, ?_⟩⟩
    · rw [turned_zero]
      show p.map (List.take n) = ((p.drop 0).take (r - 0)).map fun row => (row.drop 0).take (n - 0)
      rw [List.drop_zero, Nat.sub_zero, List.take_of_length_le (by omega)]
      rfl
    · rw [turned_zero]
      show p.map (List.drop n) = ((p.drop 0).take (r - 0)).map fun row => (row.drop n).take (c - n)
      rw [List.drop_zero, Nat.sub_zero, List.take_of_length_le (by omega)]
      exact List.map_congr_left fun row hrow => (List.take_of_length_le (by rw [List.length_drop, hp.row row hrow]; omega)).symm
  | false =>
    have h1 : n < r := h1
    refine ⟨seen_iff.mpr ⟨0, 0, n, c, 0, h0, by omega, hc0, Nat.le_refl _, by decide, ?_⟩, seen_iff.mpr ⟨n, 0, r, c, 0, h1, Nat.le_refl _, hc0, Nat.le_refl _, by decide, ?_⟩⟩
    · rw [turned_zero]
      show p.take n = ((p.drop 0).take (n - 0)).map fun row => (row.drop 0).take (c - 0)
      rw [List.drop_zero, Nat.sub_zero]
      conv => lhs; rw [← List.map_id (p.take n)]
      exact List.map_congr_left fun row hrow => (List.take_of_length_le (l := row) (show row.length ≤ c - 0 by rw [hp.row row (List.mem_of_mem_take hrow)]; omega)).symm
    · rw [turned_zero]
      show p.drop n = ((p.drop n).take (r - n)).map fun row => (row.drop 0).take (c - 0)
      rw [List.take_of_length_le (l := p.drop n) (by rw [List.length_drop]; omega)]
      conv => lhs; rw [← List.map_id (p.drop n)]
      exact List.map_congr_left fun row hrow => (List.take_of_length_le (l := row) (show row.length ≤ c - 0 by rw [hp.row row (List.mem_of_mem_drop hrow)]; omega)).symm
theorem use_seen0 {q : RuleD} {p : Pic} {r c : Nat} (hp : Pk p r c) {use : Use} (h : use ∈ usesP q p) : ∀ x ∈ use, x.1 ∈ seenAll p r c := by
  obtain ⟨hd1, hd2⟩ := hp.head
  intro x hx
  cases q with
  | cell n k s =>
    have h : use ∈ (if p = [s] then [[]] else ([] : List Use)) := h
    split at h
    · rw [List.mem_singleton.mp h] at hx; exact (List.not_mem_nil hx).elim
    · exact (List.not_mem_nil h).elim
  | turn n k a t =>
    have h : use ∈ [[(turned p (backN t.toNat), a)]] := h
    rw [List.mem_singleton.mp h] at hx
    rw [List.mem_singleton.mp hx]
    exact seen_turn hp _
  | beside n k a b =>
    have h : use ∈ pairs true p a b (p.headD []).length := h
    obtain ⟨i, hi, rfl⟩ := List.mem_map.mp h
    have hi := List.mem_range.mp hi
    have := seen_part hp true (n := i + 1) (by omega) (show i + 1 < c by omega)
    rcases List.mem_cons.mp hx with rfl | hx
    · exact this.1
    · rw [List.mem_singleton.mp hx]; exact this.2
  | above n k a b =>
    have h : use ∈ pairs false p a b p.length := h
    obtain ⟨i, hi, rfl⟩ := List.mem_map.mp h
    have hi := List.mem_range.mp hi
    have := seen_part hp false (n := i + 1) (by omega) (show i + 1 < r by have := hp.len; omega)
    rcases List.mem_cons.mp hx with rfl | hx
    · exact this.1
    · rw [List.mem_singleton.mp hx]; exact this.2
theorem use_seen {p : Pic} {r c : Nat} (hp : Pk p r c) {s : Pic} (hs : s ∈ seenAll p r c) {q : RuleD} {use : Use} (h : use ∈ usesP q s) : ∀ x ∈ use, x.1 ∈ seenAll p r c := fun x hx => by
  obtain ⟨r', c', hsp⟩ := seen_pk hp hs
  exact seen_trans hp hs hsp (use_seen0 hsp h x hx)
theorem parts_put {s : Bool} {p q : Pic} {r c r' c' : Nat} (hp : Pk p r c) (hq : Pk q r' c') (hs : if s then r = r' else c = c') : partA s (putT s p q) (if s then c else r) = p ∧ partB s (putT s p q) (if s then c else r) = q := by
  cases s with
  | true =>
    have hs : r = r' := hs
    have h1 := hp.len
    have h2 := hq.len
    have key : ∀ (p q : Pic), (∀ x ∈ p, x.length = c) → p.length = q.length → (List.zipWith (· ++ ·) p q).map (List.take c) = p ∧ (List.zipWith (· ++ ·) p q).map (List.drop c) = q := by
      intro p
      induction p with
      | nil => intro q _ hl; cases q with | nil => exact ⟨rfl, rfl⟩ | cons _ _ => cases hl
      | cons x p ih =>
        intro q hx hl
        cases q with
        | nil => cases hl
        | cons y q =>
          have hxc := hx x (List.mem_cons_self ..)
          obtain ⟨i1, i2⟩ := ih q (fun z hz => hx z (List.mem_cons_of_mem _ hz)) (by simpa using hl)
          rw [List.zipWith_cons_cons, List.map_cons, List.map_cons, i1, i2, ← hxc, List.take_left, List.drop_left]
          exact ⟨rfl, rfl⟩
    exact key p q hp.row (by omega)
  | false =>
    have h1 := hp.len
    subst h1
    exact ⟨List.take_left .., List.drop_left ..⟩
theorem der_le {rs : List RuleD} {p : Pic} {r c : Nat} (hp : Pk p r c) {M : Tab} (h : Least rs (seenL p r c) M) {s : Pic} {n : Tx} {k : Int} (d : Der rs s n k) : s ∈ seenAll p r c → ∃ v, look M (shw s, n) = some v ∧ v ≤ k := by
  have cb : ∀ (t v w : Int) (x y : Pic × Tx), look M (shw x.1, x.2) = some v → look M (shw y.1, y.2) = some w → costAcc M t [x, y] = some (t + v + w) := fun t v w x y h1 h2 => by simp only [costAcc, h1, h2]
  have cb1 : ∀ (t v : Int) (x : Pic × Tx), look M (shw x.1, x.2) = some v → costAcc M t [x] = some (t + v) := fun t v x h1 => by simp only [costAcc, h1]
  induction d with
  | cell h1 =>
    intro hs
    rename_i n' c' s'
    obtain ⟨v, hv, hle⟩ := h.done _ h1 [s'] (seenL_mem.mpr hs) [] (show [] ∈ (if [s'] = [s'] then [[]] else ([] : List Use)) by rw [if_pos rfl]; exact List.mem_singleton.mpr rfl) c' rfl
    exact ⟨v, hv, hle⟩
  | turn h1 hp' h0 h7 d1 ih =>
    intro hs
    rename_i n' c' a t p' r' c2 k'
    have htb : turned (turned p' t.toNat) (backN t.toNat) = p' := turned_back hp' (by omega)
    have hu : [(turned (turned p' t.toNat) (backN t.toNat), a)] ∈ usesP (.turn n' c' a t) (turned p' t.toNat) := List.mem_singleton.mpr rfl
    have hin := use_seen hp hs hu _ (List.mem_singleton.mpr rfl)
    rw [htb] at hin hu
    obtain ⟨v, hv, hle⟩ := ih hin
    obtain ⟨w, hw, hle2⟩ := h.done _ h1 _ (seenL_mem.mpr hs) _ hu (c' + v) (cb1 _ _ (p', a) hv)
    exact ⟨w, hw, by omega⟩
  | side h1 hp' hq' d1 d2 i1 i2 =>
    intro hs
    rename_i n' c' a b p' q' r' c1 c2 k' m'
    obtain ⟨e1, e2⟩ := parts_put (s := true) hp' hq' rfl
    have hpc := hp'.c0
    have hqc := hq'.c0
    have hhd : ((putT true p' q').headD []).length = c1 + c2 := by
      obtain ⟨x, xs, ex, hx⟩ := hp'.hd
      obtain ⟨y, ys, ey, hy⟩ := hq'.hd
      subst ex ey
      show (x ++ y).length = _
      rw [List.length_append, hx, hy]
    have hu : [(p', a), (q', b)] ∈ usesP (.beside n' c' a b) (putT true p' q') := by
      refine List.mem_map.mpr ⟨c1 - 1, List.mem_range.mpr (by rw [hhd]; omega), ?_⟩
      have e1 : partA true (putT true p' q') c1 = p' := e1
      have e2 : partB true (putT true p' q') c1 = q' := e2
      rw [show c1 - 1 + 1 = c1 by omega, e1, e2]
    have hin := use_seen hp hs hu
    obtain ⟨v, hv, hle⟩ := i1 (hin _ (List.mem_cons_self ..))
    obtain ⟨w, hw, hle2⟩ := i2 (hin (q', b) (List.mem_cons_of_mem _ (List.mem_singleton.mpr rfl)))
    obtain ⟨z, hz, hle3⟩ := h.done _ h1 _ (seenL_mem.mpr hs) _ hu (c' + v + w) (cb _ _ _ (p', a) (q', b) hv hw)
    exact ⟨z, hz, by omega⟩
  | over h1 hp' hq' d1 d2 i1 i2 =>
    intro hs
    rename_i n' c' a b p' q' r1 r2 c2 k' m'
    obtain ⟨e1, e2⟩ := parts_put (s := false) hp' hq' rfl
    have hpr := hp'.r0
    have hqr := hq'.r0
    have hll : (putT false p' q').length = r1 + r2 := by
      show (p' ++ q').length = _
      rw [List.length_append, hp'.len, hq'.len]
    have hu : [(p', a), (q', b)] ∈ usesP (.above n' c' a b) (putT false p' q') := by
      refine List.mem_map.mpr ⟨r1 - 1, List.mem_range.mpr (by rw [hll]; omega), ?_⟩
      have e1 : partA false (putT false p' q') r1 = p' := e1
      have e2 : partB false (putT false p' q') r1 = q' := e2
      rw [show r1 - 1 + 1 = r1 by omega, e1, e2]
    have hin := use_seen hp hs hu
    obtain ⟨v, hv, hle⟩ := i1 (hin _ (List.mem_cons_self ..))
    obtain ⟨w, hw, hle2⟩ := i2 (hin (q', b) (List.mem_cons_of_mem _ (List.mem_singleton.mpr rfl)))
    obtain ⟨z, hz, hle3⟩ := h.done _ h1 _ (seenL_mem.mpr hs) _ hu (c' + v + w) (cb _ _ _ (p', a) (q', b) hv hw)
    exact ⟨z, hz, by omega⟩
local macro_rules | `(tactic| walk_at "le") => `(tactic| repeat (first | exact le_nil | refine le_cons ?_ | refine le_no ?_))
noncomputable def nameOf (g : GramD) (nm : Option Tx) : Tx := nm.getD g.start
noncomputable def nameInS : Tw.Spec := fun A P R => ∃ (g : GramD) (nm : Option Tx), A = [vl g, vl nm] ∧ g.start ∈ g.names ∧ (nameOf g nm ∈ g.names → P (rv (nameOf g nm))) ∧ (nameOf g nm ∉ g.names → R NoNameX)
structure TblPre (g : GramD) (p : Pic) (r c : Nat) : Prop where
  good : ∀ q ∈ g.rules, q.good = true
  many : g.rules.length ≤ 24
  ok : PicOk p
  pk : Pk p r c
  st : g.start ∈ g.names
section
variable {P : Program} {w : World} {K : PySem.W.Frag} {mg : Str → Option Value} {base : Heap}
theorem ok_name_in (T : Txt K mg) : Has P w K mg base 2 "name_in" ["grammar", "name"] nameInS := by
  refine Has.ofX T.f_name_in sc_name_in (fun A Q R ⟨g, nm, e, _⟩ => by rw [e]; rfl) fun f cdv A outer s0 H E hr Γ Q R ⟨g, nm, e, hst, h1, h2⟩ => ?_
  subst e
  cases nm with
  | none =>
    refine st_if (k := true) (et_cmp (o_isO (α := Tx) (x := none)) (ev_var 1) ev_non) (fun _ => ?_) (fun h => nomatch h)
    exact st_retV (ev_fld (x := g) (y := g.start) T.o_Grammar T.a_Grammar_start rfl rfl (ev_var 0)) (h1 hst)
  | some n =>
    refine st_if (k := false) (et_cmp (o_isO (α := Tx) (x := some n)) (ev_var 1) ev_non) (fun h => nomatch h) (fun _ => st_nil ?_)
    by_cases hn : n ∈ g.names
    · refine st_if (k := false) (et_eq (et_cmp o_notInLS (ev_un (ev_var 1)) (ev_of_en (en_meth0 (x := g) (ys := g.names) T.o_Grammar (ok_Grammar_names T) (hr.mono (by decide)) rfl (lk rfl) (ev_var 0) fun P' R' h => ⟨g, rfl, h⟩))) (by rw [decide_eq_true hn]; rfl)) (fun h => nomatch h) (fun _ => st_nil ?_)
      exact st_retV (ev_un (ev_var 1)) (h1 hn)
    · refine st_if (k := true) (et_eq (et_cmp o_notInLS (ev_un (ev_var 1)) (ev_of_en (en_meth0 (x := g) (ys := g.names) T.o_Grammar (ok_Grammar_names T) (hr.mono (by decide)) rfl (lk rfl) (ev_var 0) fun P' R' h => ⟨g, rfl, h⟩))) (by rw [decide_eq_false hn]; rfl)) (fun _ => ?_) (fun h => nomatch h)
      exact st_raise0 T.x_NoName T.p_NoName (h2 hn)
end
theorem good_cost {r : RuleD} (h : r.good = true) : 1 ≤ r.cost := by
  have key : ∀ {k : Int}, costOk k = true → 1 ≤ k := fun h => by
    unfold costOk at h
    simp only [Bool.and_eq_true, decide_eq_true_eq] at h
    exact h.1
  cases r with
  | cell n k s =>
    have h : (signOk s && (costOk k && isName n)) = true := h
    simp only [Bool.and_eq_true] at h
    exact key h.2.1
  | turn n k a t =>
    have h : ((decide (0 ≤ t) && decide (t ≤ 7)) && ((costOk k && isName n) && isName a)) = true := h
    simp only [Bool.and_eq_true] at h
    exact key h.2.1.1
  | beside n k a b =>
    have h : ((costOk k && isName n) && (isName a && isName b)) = true := h
    simp only [Bool.and_eq_true] at h
    exact key h.1.1
  | above n k a b =>
    have h : ((costOk k && isName n) && (isName a && isName b)) = true := h
    simp only [Bool.and_eq_true] at h
    exact key h.1.1
theorem Least.sub {rs : List RuleD} {S S' : List Pic} {M : Tab} (h : Least rs S M) (hS : ∀ s, s ∈ S ↔ s ∈ S') : Least rs S' M := ⟨h.nd, h.pos, fun k v hk => by
  obtain ⟨s, hs, z⟩ := h.att k v hk
  exact ⟨s, (hS s).mp hs, z⟩, fun r hr s hs => h.done r hr s ((hS s).mpr hs)⟩
theorem least_look {rs : List RuleD} (hcost : ∀ r ∈ rs, 1 ≤ r.cost) {S S' : List Pic} (hS : ∀ s, s ∈ S ↔ s ∈ S') {M M' : Tab} (h : Least rs S M) (h' : Least rs S' M') (k : T2x) : look M k = look M' k := by
  cases hk : look M k with
  | some v => exact ((least_same hcost hS h h').2 _ (look_mem hk)).symm
  | none =>
    cases hk' : look M' k with
    | none => rfl
    | some v =>
      have := (least_same hcost (fun s => (hS s).symm) h' h).2 _ (look_mem hk')
      have : look M k = some v := this
      rw [hk] at this; cases this
theorem TableOf.look_eq {rs : List RuleD} (hg : ∀ q ∈ rs, q.good = true) {p : Pic} {r c : Nat} (hp : Pk p r c) (hs : NoSlash p) {M M' : Tab} (h : TableOf rs p r c M) (h' : TableOf rs p r c M') (k : T2x) : look M k = look M' k :=
  least_look (fun q hq => good_cost (hg q hq)) (fun _ => Iff.rfl) (h.least hp hs) (h'.least hp hs) k
noncomputable def ruleF (rs : List RuleD) (n : Int) : RuleD := rs.getD n.toNat (.cell [] 0 [])
mutual
noncomputable def Tr.size : Tr → Nat
  | .node _ ts => Tr.sizes ts + 1
noncomputable def Tr.sizes : List Tr → Nat
  | [] => 0
  | t :: ts => t.size + Tr.sizes ts
end
theorem numbers_at {rs : List RuleD} {n : Tx} {i : Int} (h : i ∈ numbersL n rs) : ∃ k : Nat, i = (k : Int) ∧ rs[k]? = some (ruleF rs i) ∧ (ruleF rs i).name = n ∧ ruleF rs i ∈ rs := by
  unfold numbersL at h
  obtain ⟨x, hx, rfl⟩ := List.mem_map.mp h
  obtain ⟨hx1, hx2⟩ := List.mem_filter.mp hx
  obtain ⟨k, hk⟩ := List.getElem?_of_mem hx1
  obtain ⟨e1, e2⟩ := enumL_get hk
  have e3 : ruleF rs x.1 = x.2 := by
    unfold ruleF
    rw [e1, Int.toNat_natCast, List.getD_eq_getElem?_getD, e2]; rfl
  exact ⟨k, e1, by rw [e3]; exact e2, by rw [e3]; exact of_decide_eq_true hx2, by rw [e3]; exact List.mem_of_getElem? e2⟩
theorem numbers_mem {rs : List RuleD} {k : Nat} {r : RuleD} (h : rs[k]? = some r) : (k : Int) ∈ numbersL r.name rs ∧ ruleF rs (k : Int) = r := by
  refine ⟨?_, by unfold ruleF; rw [Int.toNat_natCast, List.getD_eq_getElem?_getD, h]; rfl⟩
  unfold numbersL
  refine List.mem_map.mpr ⟨((k : Int), r), List.mem_filter.mpr ⟨?_, decide_eq_true rfl⟩, rfl⟩
  have hl := (List.getElem?_eq_some_iff.mp h).1
  have hk : k < (enumL rs).length := by rw [enumL_len]; exact hl
  have he := enumL_get (List.getElem?_eq_getElem hk)
  have : (enumL rs)[k] = ((k : Int), r) := Prod.ext he.1 (by have := he.2; rw [h] at this; exact (Option.some.inj this).symm)
  rw [← this]
  exact List.getElem_mem hk
noncomputable def usesAll (rs : List RuleD) (ns : List Int) (p : Pic) : List (Int × Use) := ns.flatMap fun k => (usesP (ruleF rs k) p).map fun u => (k, u)
noncomputable def hits (M : Tab) (rs : List RuleD) (v : Int) (x : Int × Use) : Bool := decide (costByP M (ruleF rs x.1) x.2 = some v)
noncomputable def firstUse (M : Tab) (rs : List RuleD) (p : Pic) (n : Tx) (v : Int) : Option (Int × Use) := (usesAll rs (numbersL n rs) p).find? (hits M rs v)
noncomputable def ftree (rs : List RuleD) (M : Tab) : Nat → Pic → Tx → Option Tr
  | 0, _, _ => none
  | f + 1, p, n => match look M (shw p, n) with
    | none => none
    | some v => match firstUse M rs p n v with
      | none => none
      | some (k, use) => if (use.all fun x => (ftree rs M f x.1 x.2).isSome) = true then some (.node k (use.map fun x => (ftree rs M f x.1 x.2).getD (.node 0 []))) else none
theorem firstUse_some {M : Tab} {rs : List RuleD} {p : Pic} {n : Tx} {v k : Int} {use : Use} (h : firstUse M rs p n v = some (k, use)) : k ∈ numbersL n rs ∧ use ∈ usesP (ruleF rs k) p ∧ costByP M (ruleF rs k) use = some v := by
  unfold firstUse at h
  have h1 := List.mem_of_find?_eq_some h
  have h2 := List.find?_some h
  unfold usesAll at h1
  obtain ⟨i, hi, hm⟩ := List.mem_flatMap.mp h1
  obtain ⟨u, hu, e⟩ := List.mem_map.mp hm
  cases e
  exact ⟨hi, hu, of_decide_eq_true h2⟩
theorem firstUse_ex {M : Tab} {rs : List RuleD} {p : Pic} {v : Int} {r : RuleD} (hr : r ∈ rs) {use : Use} (hu : use ∈ usesP r p) (hc : costByP M r use = some v) : ∃ x, firstUse M rs p r.name v = some x := by
  obtain ⟨k, hk⟩ := List.getElem?_of_mem hr
  obtain ⟨h1, h2⟩ := numbers_mem hk
  have hm : ((k : Int), use) ∈ usesAll rs (numbersL r.name rs) p := List.mem_flatMap.mpr ⟨_, h1, List.mem_map.mpr ⟨use, by rw [h2]; exact hu, rfl⟩⟩
  have hh : hits M rs v ((k : Int), use) = true := decide_eq_true (by rw [h2]; exact hc)
  unfold firstUse
  cases hf : (usesAll rs (numbersL r.name rs) p).find? (hits M rs v) with
  | some x => exact ⟨x, rfl⟩
  | none => exact absurd hh (by simpa using List.find?_eq_none.mp hf _ hm)
theorem costAcc_parts_some {M : Tab} : ∀ {u : Use} {t c : Int}, costAcc M t u = some c → ∀ x ∈ u, ∃ v, look M (shw x.1, x.2) = some v
  | [], _, _, _, _, h => (List.not_mem_nil h).elim
  | y :: u, t, c, e, x, h => by
    simp only [costAcc] at e
    split at e
    · cases e
    · rename_i v hv
      rcases List.mem_cons.mp h with rfl | h
      · exact ⟨v, hv⟩
      · exact costAcc_parts_some e x h
theorem costAcc_congr {M M' : Tab} (h : ∀ k, look M k = look M' k) : ∀ (u : Use) (t : Int), costAcc M t u = costAcc M' t u
  | [], _ => rfl
  | x :: u, t => by
    simp only [costAcc]
    rw [h]
    split
    · rfl
    · exact costAcc_congr h u _
theorem ftree_congr {rs : List RuleD} {M M' : Tab} (h : ∀ k, look M k = look M' k) : ∀ (f : Nat) (p : Pic) (n : Tx), ftree rs M f p n = ftree rs M' f p n
  | 0, _, _ => rfl
  | f + 1, p, n => by
    have hu : ∀ v, firstUse M rs p n v = firstUse M' rs p n v := fun v => by
      unfold firstUse
      congr 1
      funext x
      unfold hits costByP
      rw [costAcc_congr h]
    have ih : (fun x : Pic × Tx => ftree rs M f x.1 x.2) = fun x => ftree rs M' f x.1 x.2 := funext fun x => ftree_congr h f x.1 x.2
    simp only [ftree]
    rw [h]
    cases look M' (shw p, n) with
    | none => rfl
    | some v =>
      simp only [hu]
      cases firstUse M' rs p n v with
      | none => rfl
      | some x =>
        obtain ⟨k, use⟩ := x
        simp only [fun x : Pic × Tx => congrFun ih x]
theorem ftree_step {rs : List RuleD} {M : Tab} {f : Nat} {p : Pic} {n : Tx} {t : Tr} (h : ftree rs M (f + 1) p n = some t) : ∃ v k use, look M (shw p, n) = some v ∧ firstUse M rs p n v = some (k, use) ∧ t = .node k (use.map fun x => (ftree rs M f x.1 x.2).getD (.node 0 [])) ∧ ∀ x ∈ use, ∃ s, ftree rs M f x.1 x.2 = some s := by
  simp only [ftree] at h
  split at h
  · cases h
  · rename_i v hv
    split at h
    · cases h
    · rename_i k use hu
      split at h
      · rename_i ha
        cases h
        exact ⟨v, k, use, hv, hu, rfl, fun x hx => Option.isSome_iff_exists.mp (List.all_eq_true.mp ha x hx)⟩
      · cases h
theorem ftree_make {rs : List RuleD} {M : Tab} {f : Nat} {p : Pic} {n : Tx} {v k : Int} {use : Use} (hv : look M (shw p, n) = some v) (hu : firstUse M rs p n v = some (k, use)) (ha : ∀ x ∈ use, ∃ s, ftree rs M f x.1 x.2 = some s) : ftree rs M (f + 1) p n = some (.node k (use.map fun x => (ftree rs M f x.1 x.2).getD (.node 0 []))) := by
  simp only [ftree, hv, hu]
  rw [if_pos (List.all_eq_true.mpr fun x hx => Option.isSome_iff_exists.mpr (ha x hx))]
theorem ftree_dep {rs : List RuleD} {M : Tab} : ∀ {f : Nat} {p : Pic} {n : Tx} {t : Tr}, ftree rs M f p n = some t → t.dep ≤ f
  | 0, _, _, _, h => by cases h
  | f + 1, p, n, t, h => by
    obtain ⟨v, k, use, hv, hu, rfl, ha⟩ := ftree_step h
    have key : ∀ ts : List Tr, (∀ s ∈ ts, s.dep ≤ f) → Tr.deps ts ≤ f := fun ts => by
      induction ts with
      | nil => intro _; rw [Tr.deps]; exact Nat.zero_le _
      | cons s ts ih =>
        intro h
        rw [Tr.deps]
        exact Nat.max_le.mpr ⟨h s (List.mem_cons_self ..), ih fun z hz => h z (List.mem_cons_of_mem _ hz)⟩
    rw [Tr.dep]
    refine Nat.succ_le_succ (key _ fun s hs => ?_)
    obtain ⟨x, hx, rfl⟩ := List.mem_map.mp hs
    obtain ⟨s', hs'⟩ := ha x hx
    rw [hs']
    exact ftree_dep hs'
noncomputable def orbN (r c : Nat) : Nat := if r = 1 ∧ c = 1 then 1 else if r = 1 ∨ c = 1 then 4 else 8
noncomputable def depN (r c : Nat) : Nat := if r = 1 then 4 * c - 3 else if c = 1 then 4 * r - 3 else if r * c = 4 then 13 else 21
noncomputable def sizN (r c : Nat) : Nat := if r = 1 then 5 * c - 4 else if c = 1 then 5 * r - 4 else if r * c = 4 then 20 else 34
noncomputable def chkA (r c : Nat) : Bool := decide (orbN r c = orbN c r) && (decide (depN r c = depN c r) && (decide (sizN r c = sizN c r) && (decide (orbN r c ≤ depN r c) && decide (orbN r c ≤ sizN r c))))
noncomputable def chkB (r c k : Nat) : Bool := decide (depN r k + orbN r c ≤ depN r c) && (decide (depN r (c - k) + orbN r c ≤ depN r c) && decide (sizN r k + sizN r (c - k) + orbN r c ≤ sizN r c))
noncomputable def chkC (r c k : Nat) : Bool := decide (depN k c + orbN r c ≤ depN r c) && (decide (depN (r - k) c + orbN r c ≤ depN r c) && decide (sizN k c + sizN (r - k) c + orbN r c ≤ sizN r c))
theorem chkA_all : ∀ r < 7, ∀ c < 7, (0 < r ∧ 0 < c ∧ r * c ≤ 6) → chkA r c = true := by decide +kernel
theorem chkB_all : ∀ r < 7, ∀ c < 7, ∀ k < c, (0 < r ∧ 0 < k ∧ r * c ≤ 6) → chkB r c k = true := by decide +kernel
theorem chkC_all : ∀ r < 7, ∀ c < 7, ∀ k < r, (0 < c ∧ 0 < k ∧ r * c ≤ 6) → chkC r c k = true := by decide +kernel
theorem numN (r : Nat) (h1 : r < 7) (c : Nat) (h2 : c < 7) (h3 : 0 < r) (h4 : 0 < c) (h5 : r * c ≤ 6) : orbN r c = orbN c r ∧ depN r c = depN c r ∧ sizN r c = sizN c r ∧ orbN r c ≤ depN r c ∧ orbN r c ≤ sizN r c ∧
    (∀ k < c, 0 < k → depN r k + orbN r c ≤ depN r c ∧ depN r (c - k) + orbN r c ≤ depN r c ∧ sizN r k + sizN r (c - k) + orbN r c ≤ sizN r c) ∧
    (∀ k < r, 0 < k → depN k c + orbN r c ≤ depN r c ∧ depN (r - k) c + orbN r c ≤ depN r c ∧ sizN k c + sizN (r - k) c + orbN r c ≤ sizN r c) := by
  have a := chkA_all r h1 c h2 ⟨h3, h4, h5⟩
  unfold chkA at a
  simp only [Bool.and_eq_true, decide_eq_true_eq] at a
  refine ⟨a.1, a.2.1, a.2.2.1, a.2.2.2.1, a.2.2.2.2, fun k hk h0 => ?_, fun k hk h0 => ?_⟩
  · have b := chkB_all r h1 c h2 k hk ⟨h3, h0, h5⟩
    unfold chkB at b
    simpa only [Bool.and_eq_true, decide_eq_true_eq] using b
  · have b := chkC_all r h1 c h2 k hk ⟨h4, h0, h5⟩
    unfold chkC at b
    simpa only [Bool.and_eq_true, decide_eq_true_eq] using b
noncomputable def orb (p : Pic) (r c : Nat) : List Pic := if r = 1 ∧ c = 1 then [p] else if r = 1 ∨ c = 1 then (List.range 4).map (turned p) else (List.range 8).map (turned p)
theorem orb_len (p : Pic) (r c : Nat) : (orb p r c).length = orbN r c := by
  unfold orb orbN
  split
  · rfl
  · split <;> rw [List.length_map, List.length_range]
theorem turned_lt4 {p : Pic} {r c : Nat} (hp : Pk p r c) (h : r = 1 ∨ c = 1) (k : Nat) : ∃ j < 4, turned p k = turned p j := by
  have hm : ∃ j, mirrored p = quarters j p := by
    rcases h with rfl | rfl
    · refine ⟨2, ?_⟩
      have hc0 := hp.c0
      rw [hp.mk', mkPic_mirrored]
      show (mkPic 1 c fun i j => ent p i (c - 1 - j)) = quarter (quarter (mkPic 1 c (ent p)))
      rw [mkPic_quarter (by decide), mkPic_quarter hc0]
      exact mkPic_congr fun i j hi hj => by
        have : i = 0 := by omega
        subst this
        rfl
    · refine ⟨0, ?_⟩
      show mirrored p = p
      have h2 : mirrored (mkPic r 1 (ent p)) = mkPic r 1 (ent p) := by
        rw [mkPic_mirrored]
        exact mkPic_congr fun i j hi hj => by
          have : j = 0 := by omega
          subst this
          rfl
      rw [← hp.mk'] at h2
      exact h2
  obtain ⟨j, hj⟩ := hm
  by_cases hk : 4 ≤ k
  · refine ⟨(k % 4 + j) % 4, by omega, ?_⟩
    unfold turned
    rw [if_pos hk, if_neg (by omega), hj, ← quarters_add, quarters_mod hp, Nat.mod_mod]
  · exact ⟨k, by omega, rfl⟩
theorem turned_one {p : Pic} (hp : Pk p 1 1) (k : Nat) : turned p k = p := by
  have hq : quarter p = p := by
    have : quarter (mkPic 1 1 (ent p)) = mkPic 1 1 (ent p) := by
      rw [mkPic_quarter (by decide)]
      exact mkPic_congr fun i j hi hj => by
        have e1 : i = 0 := by omega
        have e2 : j = 0 := by omega
        subst e1 e2
        rfl
    rw [← hp.mk'] at this
    exact this
  have hm : mirrored p = p := by
    have : mirrored (mkPic 1 1 (ent p)) = mkPic 1 1 (ent p) := by
      rw [mkPic_mirrored]
      exact mkPic_congr fun i j hi hj => by
        have e2 : j = 0 := by omega
        subst e2
        rfl
    rw [← hp.mk'] at this
    exact this
  have hqs : ∀ n, quarters n p = p := fun n => by
    induction n with
    | zero => rfl
    | succ n ih => show quarter (quarters n p) = p; rw [ih, hq]
  unfold turned
  rw [hm, ite_self, hqs]
theorem orb_self {p : Pic} {r c : Nat} (_ : Pk p r c) : p ∈ orb p r c := by
  unfold orb
  split
  · exact List.mem_singleton.mpr rfl
  · split
    · exact List.mem_map.mpr ⟨0, by decide, turned_zero p⟩
    · exact List.mem_map.mpr ⟨0, by decide, turned_zero p⟩
theorem orb_is {p : Pic} {r c : Nat} {q : Pic} (h : q ∈ orb p r c) : ∃ t < 8, q = turned p t := by
  unfold orb at h
  split at h
  · exact ⟨0, by decide, by rw [turned_zero]; exact List.mem_singleton.mp h⟩
  · split at h
    · obtain ⟨t, ht, rfl⟩ := List.mem_map.mp h
      exact ⟨t, by have := List.mem_range.mp ht; omega, rfl⟩
    · obtain ⟨t, ht, rfl⟩ := List.mem_map.mp h
      exact ⟨t, List.mem_range.mp ht, rfl⟩
theorem orb_all {p : Pic} {r c : Nat} (hp : Pk p r c) (t : Nat) : turned p t ∈ orb p r c := by
  unfold orb
  split
  · rename_i h
    obtain ⟨rfl, rfl⟩ := h
    rw [turned_one hp]; exact List.mem_singleton.mpr rfl
  · split
    · rename_i h
      obtain ⟨j, hj, e⟩ := turned_lt4 hp h t
      rw [e]; exact List.mem_map.mpr ⟨j, List.mem_range.mpr hj, rfl⟩
    · obtain ⟨j, hj, e⟩ := turned_lt p t
      rw [e]; exact List.mem_map.mpr ⟨j, List.mem_range.mpr hj, rfl⟩
theorem orb_closed {p : Pic} {r c : Nat} (hp : Pk p r c) {q : Pic} (h : q ∈ orb p r c) (t : Nat) : turned q t ∈ orb p r c := by
  obtain ⟨k, hk, rfl⟩ := orb_is h
  obtain ⟨j, hj, e⟩ := turned_lt (turned p k) t
  rw [e, turned_after hp hk hj]
  exact orb_all hp _
noncomputable def lessB (M : Tab) (u : Int) (k : T2x) : Bool := match look M k with
  | some w => decide (w < u)
  | none => false
theorem lessB_some {M : Tab} {u w : Int} {k : T2x} (h : look M k = some w) : lessB M u k = decide (w < u) := by unfold lessB; rw [h]
noncomputable def rnk (M : Tab) (cl : List T2x) (v : Int) : Nat := (cl.filter (lessB M v)).length
theorem rnk_cons (M : Tab) (a : T2x) (l : List T2x) (u : Int) : rnk M (a :: l) u = (if lessB M u a = true then 1 else 0) + rnk M l u := by
  unfold rnk
  rw [List.filter_cons]
  cases lessB M u a with
  | true => rw [if_pos rfl, if_pos rfl, List.length_cons]; omega
  | false => rw [if_neg Bool.false_ne_true, if_neg Bool.false_ne_true]; omega
theorem lessB_mono {M : Tab} {v w : Int} (h : w < v) (a : T2x) : lessB M w a = true → lessB M v a = true := by
  unfold lessB
  cases look M a with
  | none => exact id
  | some x => intro h1; exact decide_eq_true (by have := of_decide_eq_true h1; omega : x < v)
theorem rnk_lt {M : Tab} {v w : Int} {k : T2x} (hv : look M k = some w) (h : w < v) : ∀ {cl : List T2x}, k ∈ cl → rnk M cl w < rnk M cl v := by
  have key : ∀ l : List T2x, rnk M l w ≤ rnk M l v ∧ (k ∈ l → rnk M l w < rnk M l v) := fun l => by
    induction l with
    | nil => exact ⟨Nat.le_refl _, fun h => (List.not_mem_nil h).elim⟩
    | cons a l ih =>
      rw [rnk_cons, rnk_cons]
      have hle := lessB_mono (M := M) h a
      have hle2 : (if lessB M w a = true then 1 else 0) ≤ (if lessB M v a = true then 1 else 0) := by
        by_cases h1 : lessB M w a = true
        · rw [if_pos h1, if_pos (hle h1)]; exact Nat.le_refl _
        · rw [if_neg h1]; exact Nat.zero_le _
      refine ⟨Nat.add_le_add hle2 ih.1, fun hm => ?_⟩
      rcases List.mem_cons.mp hm with rfl | hm
      · rw [if_neg (show ¬ lessB M w k = true by rw [lessB_some hv]; simp), if_pos (show lessB M v k = true by rw [lessB_some hv]; exact decide_eq_true h)]
        have := ih.1
        omega
      · have := ih.2 hm
        omega
  exact fun {cl} hk => (key cl).2 hk
theorem rnk_len {M : Tab} {cl : List T2x} {v : Int} {k : T2x} (hk : k ∈ cl) (hv : look M k = some v) : rnk M cl v < cl.length := by
  unfold rnk
  refine List.length_filter_lt_length_iff_exists.mpr ⟨k, hk, ?_⟩
  rw [lessB_some hv]
  simp
structure FtPre (rs : List RuleD) (names : List Tx) (S : List Pic) (M : Tab) : Prop where
  least : Least rs S M
  cost : ∀ r ∈ rs, 1 ≤ r.cost
  nm : ∀ r ∈ rs, r.name ∈ names ∧ ∀ n ∈ r.parts, n ∈ names
  pk : ∀ s ∈ S, ∃ r c, Pk s r c
  inj : ∀ s ∈ S, ∀ s' ∈ S, shw s = shw s' → s = s'
  clo : ∀ s ∈ S, ∀ r, ∀ use ∈ usesP r s, ∀ x ∈ use, x.1 ∈ S
  trn : ∀ s ∈ S, ∀ t, turned s t ∈ S
theorem FtPre.first {rs : List RuleD} {names : List Tx} {S : List Pic} {M : Tab} (h : FtPre rs names S M) {p : Pic} (hp : p ∈ S) {n : Tx} {v : Int} (hv : look M (shw p, n) = some v) : ∃ k use, firstUse M rs p n v = some (k, use) ∧ n ∈ names := by
  obtain ⟨s, hs, r, hr, e, use, hu, hc⟩ := h.least.exact hv
  have e1 := congrArg Prod.fst e
  have e2 := congrArg Prod.snd e
  have e1 : shw p = shw s := e1
  have e2 : n = r.name := e2
  have := h.inj p hp s hs e1
  subst this
  obtain ⟨x, hx⟩ := firstUse_ex hr hu hc
  have hx : firstUse M rs p n v = some x := by
    have e3 : r.name = n := e2.symm
    rw [← e3]; exact hx
  exact ⟨x.1, x.2, hx, by
    have e3 : r.name = n := e2.symm
    rw [← e3]; exact (h.nm r hr).1⟩
theorem sizes_le {ts : List Tr} : Tr.sizes ts = (ts.map Tr.size).sum := by
  induction ts with
  | nil => rw [Tr.sizes]; rfl
  | cons t ts ih => rw [Tr.sizes, ih]; rfl
theorem FtPre.chain {rs : List RuleD} {names : List Tx} {S : List Pic} {M : Tab} (h : FtPre rs names S M) {cl : List Pic} (hcl : ∀ q ∈ cl, q ∈ S ∧ ∀ t, turned q t ∈ cl) {L Z : Nat}
    (low : ∀ q ∈ cl, ∀ r ∈ rs, isTurn r = false → ∀ use ∈ usesP r q, (∀ x ∈ use, ∃ w, look M (shw x.1, x.2) = some w) → ∀ f, L ≤ f → (∀ x ∈ use, ∃ s, ftree rs M f x.1 x.2 = some s) ∧ (use.map fun x => ((ftree rs M f x.1 x.2).getD (.node 0 [])).size).sum ≤ Z) :
    ∀ (f : Nat) (q : Pic) (n : Tx) (v : Int), q ∈ cl → look M (shw q, n) = some v → rnk M (cl.flatMap fun q => names.map fun m => ((shw q, m) : T2x)) v + 1 + L ≤ f → ∃ t, ftree rs M f q n = some t ∧ t.size ≤ rnk M (cl.flatMap fun q => names.map fun m => ((shw q, m) : T2x)) v + 1 + Z := by
  intro f
  induction f with
  | zero => intro q n v _ _ hf; omega
  | succ f ih =>
    intro q n v hq hv hf
    obtain ⟨k, use, hfu, hn⟩ := h.first (hcl q hq).1 hv
    obtain ⟨hk, huse, hcost⟩ := firstUse_some hfu
    obtain ⟨i, rfl, hri, hrn, hrm⟩ := numbers_at hk
    have hparts : ∀ x ∈ use, ∃ w, look M (shw x.1, x.2) = some w := costAcc_parts_some hcost
    generalize hrr : ruleF rs (i : Int) = r at huse hcost hrm hrn hri
    by_cases hturn : isTurn r = true
    · cases r with
      | turn n' c a t =>
        have huse : use ∈ [[(turned q (backN t.toNat), a)]] := huse
        have eu := List.mem_singleton.mp huse
        subst eu
        obtain ⟨w, hw⟩ := hparts _ (List.mem_singleton.mpr rfl)
        have hc1 : 1 ≤ c := h.cost _ hrm
        have hcw : c + w = v := by
          have hcost : costAcc M c [(turned q (backN t.toNat), a)] = some v := hcost
          simp only [costAcc, hw] at hcost
          exact Option.some.inj hcost
        have hq' := (hcl q hq).2 (backN t.toNat)
        have ham : a ∈ names := (h.nm _ hrm).2 a (List.mem_singleton.mpr rfl)
        have hlt := rnk_lt (M := M) (cl := cl.flatMap fun q => names.map fun m => ((shw q, m) : T2x)) (k := (shw (turned q (backN t.toNat)), a)) hw (show w < v by omega) (List.mem_flatMap.mpr ⟨_, hq', List.mem_map.mpr ⟨a, ham, rfl⟩⟩)
        obtain ⟨s, hs1, hs2⟩ := ih _ a w hq' hw (by omega)
        refine ⟨_, ftree_make hv hfu fun x hx => ?_, ?_⟩
        · rw [List.mem_singleton.mp hx]; exact ⟨s, hs1⟩
        · rw [Tr.size, sizes_le]
          show ([((ftree rs M f (turned q (backN t.toNat)) a).getD (.node 0 [])).size].sum) + 1 ≤ _
          rw [hs1]
          show s.size + 0 + 1 ≤ _
          omega
      | cell _ _ _ => cases hturn
      | beside _ _ _ _ => cases hturn
      | above _ _ _ _ => cases hturn
    · obtain ⟨g1, g2⟩ := low q hq r hrm (by simpa using hturn) use huse hparts f (by omega)
      refine ⟨_, ftree_make hv hfu g1, ?_⟩
      rw [Tr.size, sizes_le, List.map_map]
      have : ((use.map (Tr.size ∘ fun x => (ftree rs M f x.1 x.2).getD (.node 0 []))).sum) ≤ Z := g2
      omega
theorem FtPre.all {rs : List RuleD} {names : List Tx} {S : List Pic} {M : Tab} (h : FtPre rs names S M) : ∀ (m : Nat) (p : Pic) (r c : Nat), p ∈ S → Pk p r c → r * c ≤ m → m ≤ 6 → ∀ (n : Tx) (v : Int), look M (shw p, n) = some v → ∀ f, names.length * depN r c ≤ f → ∃ t, ftree rs M f p n = some t ∧ t.size ≤ names.length * sizN r c := by
  intro m
  induction m with
  | zero => intro p r c _ hp hm; have := hp.r0; have := hp.c0; have := Nat.mul_pos hp.r0 hp.c0; omega
  | succ m ih =>
    intro p r c hpS hp hm hm6 n v hv f hf
    have hr0 := hp.r0
    have hc0 := hp.c0
    have hr6 := hp.r6
    have hc6 := hp.c6
    obtain ⟨n1, n2, n3, n4, n5, n6, n7⟩ := numN r (by omega) c (by omega) hr0 hc0 (by omega)
    obtain ⟨m1, m2, m3, m4, m5, m6, m7⟩ := numN c (by omega) r (by omega) hc0 hr0 (by rw [Nat.mul_comm]; omega)
    obtain ⟨N, hN⟩ : ∃ N, N = names.length := ⟨_, rfl⟩
    rw [← hN] at hf ih ⊢
    have hcl : ∀ q ∈ orb p r c, q ∈ S ∧ ∀ t, turned q t ∈ orb p r c := fun q hq => by
      obtain ⟨t, _, e⟩ := orb_is hq
      exact ⟨e ▸ h.trn p hpS t, fun t => orb_closed hp hq t⟩
    have hlen : ((orb p r c).flatMap fun q => names.map fun m => ((shw q, m) : T2x)).length = orbN r c * N := by
      rw [← orb_len p r c]
      generalize orb p r c = l
      induction l with
      | nil => simp
      | cons a l ih2 => rw [List.flatMap_cons, List.length_append, ih2, List.length_map, List.length_cons, ← hN, Nat.succ_mul]; omega
    have hmem : ((shw p, n) : T2x) ∈ (orb p r c).flatMap fun q => names.map fun m => ((shw q, m) : T2x) := by
      obtain ⟨_, _, _, hnn⟩ := h.first hpS hv
      exact List.mem_flatMap.mpr ⟨p, orb_self hp, List.mem_map.mpr ⟨n, hnn, rfl⟩⟩
    have hrk := rnk_len hmem hv
    rw [hlen] at hrk
    have hdm : N * (depN r c - orbN r c) + orbN r c * N ≤ N * depN r c := by
      rw [Nat.mul_comm (orbN r c) N, ← Nat.mul_add, Nat.sub_add_cancel n4]; exact Nat.le_refl _
    have hsm : N * (sizN r c - orbN r c) + orbN r c * N ≤ N * sizN r c := by
      rw [Nat.mul_comm (orbN r c) N, ← Nat.mul_add, Nat.sub_add_cancel n5]; exact Nat.le_refl _
    suffices low : ∀ q ∈ orb p r c, ∀ ru ∈ rs, isTurn ru = false → ∀ use ∈ usesP ru q, (∀ x ∈ use, ∃ w, look M (shw x.1, x.2) = some w) → ∀ f, N * (depN r c - orbN r c) ≤ f → (∀ x ∈ use, ∃ s, ftree rs M f x.1 x.2 = some s) ∧ (use.map fun x => ((ftree rs M f x.1 x.2).getD (.node 0 [])).size).sum ≤ N * (sizN r c - orbN r c) by
      obtain ⟨t, ht, hts⟩ := h.chain (cl := orb p r c) hcl low f p n v (orb_self hp) hv (by omega)
      exact ⟨t, ht, by omega⟩
    · intro q hq ru hru hturn use hu hparts f hf
      obtain ⟨tt, _, eq⟩ := orb_is hq
      have hqp : Pk q r c ∨ Pk q c r := by
        rw [eq]
        have := hp.turned tt
        by_cases h2 : tt % 2 = 0
        · rw [if_pos h2, if_pos h2] at this; exact .inl this
        · rw [if_neg h2, if_neg h2] at this; exact .inr this
      have two : ∀ (x y : Pic × Tx) (ra ca rb cb : Nat), x.1 ∈ S → y.1 ∈ S → Pk x.1 ra ca → Pk y.1 rb cb → ra * ca ≤ m → rb * cb ≤ m → depN ra ca + orbN r c ≤ depN r c → depN rb cb + orbN r c ≤ depN r c → sizN ra ca + sizN rb cb + orbN r c ≤ sizN r c → use = [x, y] →
          (∀ x ∈ use, ∃ s, ftree rs M f x.1 x.2 = some s) ∧ (use.map fun x => ((ftree rs M f x.1 x.2).getD (.node 0 [])).size).sum ≤ N * (sizN r c - orbN r c) := by
        intro x y ra ca rb cb hx hy hpx hpy hcx hcy hdx hdy hsz e
        subst e
        obtain ⟨w1, hw1⟩ := hparts x (List.mem_cons_self ..)
        obtain ⟨w2, hw2⟩ := hparts y (List.mem_cons_of_mem _ (List.mem_singleton.mpr rfl))
        obtain ⟨s1, hs1, hz1⟩ := ih x.1 ra ca hx hpx hcx (by omega) x.2 w1 hw1 f (Nat.le_trans (Nat.mul_le_mul_left N (by omega)) hf)
        obtain ⟨s2, hs2, hz2⟩ := ih y.1 rb cb hy hpy hcy (by omega) y.2 w2 hw2 f (Nat.le_trans (Nat.mul_le_mul_left N (by omega)) hf)
        refine ⟨fun z hz => ?_, ?_⟩
        · rcases List.mem_cons.mp hz with rfl | hz
          · exact ⟨s1, hs1⟩
          · rw [List.mem_singleton.mp hz]; exact ⟨s2, hs2⟩
        · show ((ftree rs M f x.1 x.2).getD (.node 0 [])).size + (((ftree rs M f y.1 y.2).getD (.node 0 [])).size + 0) ≤ _
          rw [hs1, hs2]
          show s1.size + (s2.size + 0) ≤ _
          have : N * (sizN ra ca + sizN rb cb) ≤ N * (sizN r c - orbN r c) := Nat.mul_le_mul_left N (by omega)
          rw [Nat.mul_add] at this
          omega
      have hqS := (hcl q hq).1
      have hclo := h.clo q hqS ru use hu
      have side : ∀ (r' c' : Nat), Pk q r' c' → r' * c' ≤ m + 1 → (∀ k < c', 0 < k → depN r' k + orbN r c ≤ depN r c ∧ depN r' (c' - k) + orbN r c ≤ depN r c ∧ sizN r' k + sizN r' (c' - k) + orbN r c ≤ sizN r c) → (∀ k < r', 0 < k → depN k c' + orbN r c ≤ depN r c ∧ depN (r' - k) c' + orbN r c ≤ depN r c ∧ sizN k c' + sizN (r' - k) c' + orbN r c ≤ sizN r c) →
          (∀ x ∈ use, ∃ s, ftree rs M f x.1 x.2 = some s) ∧ (use.map fun x => ((ftree rs M f x.1 x.2).getD (.node 0 [])).size).sum ≤ N * (sizN r c - orbN r c) := by
        intro r' c' hqk hcm hA hB
        obtain ⟨hd1, hd2⟩ := hqk.head
        have hql := hqk.len
        have hqr := hqk.r0
        have hqc := hqk.c0
        cases ru with
        | cell n' k' s' =>
          have hu : use ∈ (if q = [s'] then [[]] else ([] : List Use)) := hu
          split at hu
          · rw [List.mem_singleton.mp hu]
            exact ⟨fun x hx => (List.not_mem_nil hx).elim, Nat.zero_le _⟩
          · exact (List.not_mem_nil hu).elim
        | turn _ _ _ _ => cases hturn
        | beside n' k' a b =>
          have hu : use ∈ pairs true q a b (q.headD []).length := hu
          obtain ⟨i, hi, e⟩ := List.mem_map.mp hu
          have hi := List.mem_range.mp hi
          rw [hd2] at hi
          obtain ⟨p1, p2⟩ := pk_side hqk true (n := i + 1) (by omega) (show i + 1 < c' by omega)
          have p1 : Pk (partA true q (i + 1)) r' (i + 1) := p1
          have p2 : Pk (partB true q (i + 1)) r' (c' - (i + 1)) := p2
          obtain ⟨k1, k2, k3⟩ := hA (i + 1) (by omega) (by omega)
          have hb1 : r' * (i + 1) < r' * c' := Nat.mul_lt_mul_of_pos_left (by omega) hqr
          have hb2 : r' * (c' - (i + 1)) < r' * c' := Nat.mul_lt_mul_of_pos_left (by omega) hqr
          exact two (partA true q (i + 1), a) (partB true q (i + 1), b) _ _ _ _ (hclo (partA true q (i + 1), a) (by rw [← e]; exact List.mem_cons_self ..)) (hclo (partB true q (i + 1), b) (by rw [← e]; exact List.mem_cons_of_mem _ (List.mem_singleton.mpr rfl))) p1 p2 (by omega) (by omega) k1 k2 k3 e.symm
        | above n' k' a b =>
          have hu : use ∈ pairs false q a b q.length := hu
          obtain ⟨i, hi, e⟩ := List.mem_map.mp hu
          have hi := List.mem_range.mp hi
          rw [hql] at hi
          obtain ⟨p1, p2⟩ := pk_side hqk false (n := i + 1) (by omega) (show i + 1 < r' by omega)
          have p1 : Pk (partA false q (i + 1)) (i + 1) c' := p1
          have p2 : Pk (partB false q (i + 1)) (r' - (i + 1)) c' := p2
          obtain ⟨k1, k2, k3⟩ := hB (i + 1) (by omega) (by omega)
          have hb1 : (i + 1) * c' < r' * c' := Nat.mul_lt_mul_of_pos_right (by omega) hqc
          have hb2 : (r' - (i + 1)) * c' < r' * c' := Nat.mul_lt_mul_of_pos_right (by omega) hqc
          exact two (partA false q (i + 1), a) (partB false q (i + 1), b) _ _ _ _ (hclo (partA false q (i + 1), a) (by rw [← e]; exact List.mem_cons_self ..)) (hclo (partB false q (i + 1), b) (by rw [← e]; exact List.mem_cons_of_mem _ (List.mem_singleton.mpr rfl))) p1 p2 (by omega) (by omega) k1 k2 k3 e.symm
      rcases hqp with hqk | hqk
      · exact side r c hqk hm n6 n7
      · rw [n1, n2, n3] at *
        exact side c r hqk (by rw [Nat.mul_comm]; exact hm) m6 m7
local macro_rules | `(tactic| walk_at "le") => `(tactic| repeat (first | exact le_nil | refine le_cons ?_ | refine le_no ?_))
mutual
noncomputable def Tr.nums : Tr → List Int
  | .node n ts => n :: Tr.numss ts
noncomputable def Tr.numss : List Tr → List Int
  | [] => []
  | t :: ts => t.nums ++ Tr.numss ts
end
theorem Tr.nums_eq (t : Tr) : t.nums = t.num :: Tr.numss t.subs := by cases t with | node n ts => rw [Tr.nums]; rfl
theorem Tr.numss_app (a b : List Tr) : Tr.numss (a ++ b) = Tr.numss a ++ Tr.numss b := by
  induction a with
  | nil => rw [Tr.numss]; rfl
  | cons t a ih => rw [List.cons_append, Tr.numss, Tr.numss, ih, List.append_assoc]
theorem Tr.size_eq (t : Tr) : t.size = Tr.sizes t.subs + 1 := by
  cases t with
  | node n ts => rw [Tr.size]; rfl
theorem Tr.sizes_app (a b : List Tr) : Tr.sizes (a ++ b) = Tr.sizes a + Tr.sizes b := by
  induction a with
  | nil => rw [Tr.sizes]; simp
  | cons t a ih => rw [List.cons_append, Tr.sizes, Tr.sizes, ih]; omega
mutual
theorem nums_len : ∀ t : Tr, t.nums.length = t.size
  | .node n ts => by rw [Tr.nums, Tr.size, List.length_cons, numss_len ts]
theorem numss_len : ∀ ts : List Tr, (Tr.numss ts).length = Tr.sizes ts
  | [] => by rw [Tr.numss, Tr.sizes]; rfl
  | t :: ts => by rw [Tr.numss, Tr.sizes, List.length_append, nums_len t, numss_len ts]
end
theorem sizes_mem {s : Tr} : ∀ {ts : List Tr}, s ∈ ts → s.size ≤ Tr.sizes ts
  | t :: ts, h => by
    rw [Tr.sizes]
    rcases List.mem_cons.mp h with rfl | h
    · omega
    · have := sizes_mem h; omega
noncomputable def numsS (d : Nat) : Tw.Spec := fun A P _ => ∃ (t : Tr), A = [vl t] ∧ t.dep ≤ d ∧ t.size ≤ 900 ∧ P (rn t.nums)
noncomputable def fuseS : Tw.Spec := fun A P _ => ∃ (g : GramD) (M : Tab) (p : Pic) (r c : Nat) (n : Tx) (v : Int), A = [vl g, vl (Dic.mk M : Dic T2x Int), vl p, vl n] ∧ (∀ q ∈ g.rules, q.good = true) ∧ g.rules.length ≤ 100 ∧ n ∈ g.names ∧ PicOk p ∧ Pk p r c ∧ look M (shw p, n) = some v ∧ P (rv (firstUse M g.rules p n v))
theorem find_app {A : Type} {f : A → Bool} {xs ys : List A} (h : xs.find? f = none) : (xs ++ ys).find? f = ys.find? f := by rw [List.find?_append, h]; rfl
section
variable {P : Program} {w : World} {K : PySem.W.Frag} {mg : Str → Option Value} {base : Heap}
theorem ok_numbers_in (T : Txt K mg) : ∀ d, Has P w K mg base (1 + d) "numbers_in" ["tree"] (numsS d) := by
  intro d
  induction d with
  | zero => exact Has.of (k := 0) T.f_numbers_in sc_numbers_in (fun A Q R ⟨t, e, _⟩ => by rw [e]; rfl) fun f cdv A outer s0 H E hr Γ Q R ⟨t, e, hd, _⟩ => absurd (Tr.dep_pos t) (by omega)
  | succ d ih =>
    refine Has.of (k := 1 + d) T.f_numbers_in sc_numbers_in (fun A Q R ⟨t, e, _⟩ => by rw [e]; rfl) fun f cdv A outer s0 H E hr Γ Q R ⟨t, e, hd, hz, hq⟩ => ?_
    subst e
    have hse := Tr.size_eq t
    refine st_setN 1 (xs := [t.num]) (en_lst (es_cons (ev_num (t := t) (ev_var 0) ev_int) es_nil)) (fun ad => ?_) sc_numbers_in.nd
    refine st_for (fun k Γ' => Le Γ' [vl t, .lst repInt ad (t.num :: Tr.numss (t.subs.take k)), .no]) (src_tup (ev_subs (t := t) (ev_var 0) ev_int)) (tg_name 2) (by rw [List.take_zero, Tr.numss]; exact Le.refl) (fun k s Γ' hk hP => ?_) (fun Γ' hP => ?_) (pgn 2 sc_numbers_in.nd)
    · have hk : t.subs[k]? = some s := hk
      have hsm := List.mem_of_getElem? hk
      have hds := Tr.dep_sub hsm
      have hzs := sizes_mem hsm
      have htk : t.subs.take (k + 1) = t.subs.take k ++ [s] := by rw [List.take_add_one, hk]; rfl
      have hl : (Tr.numss (t.subs.take (k + 1))).length ≤ Tr.sizes t.subs := by
        rw [numss_len]
        have : Tr.sizes t.subs = Tr.sizes (t.subs.take (k + 1)) + Tr.sizes (t.subs.drop (k + 1)) := by rw [← Tr.sizes_app, List.take_append_drop]
        omega
      rw [htk, Tr.numss_app, List.length_append] at hl
      have e1 : Tr.numss [s] = s.nums := by rw [Tr.numss, Tr.numss, List.append_nil]
      rw [e1] at hl
      refine st_le (Le.set hP 2 _) ?_
      refine st_extend 1 (ad := ad) (xs := t.num :: Tr.numss (t.subs.take k)) (ys := s.nums) (en_call ih (hr.mono (by omega)) (ea_cons (x := s) (ev_var 2) ea_nil) fun P' R' h => ⟨s, rfl, by omega, by omega, h⟩) (st_nil ?_) (sl_small (by rw [List.length_cons]; omega))
      rw [htk, Tr.numss_app, e1]
      exact le_cons (le_cons (le_no le_nil))
    · have hP : Le Γ' [vl t, .lst repInt ad (t.num :: Tr.numss (t.subs.take t.subs.length)), .no] := hP
      rw [List.take_length, ← Tr.nums_eq] at hP
      refine st_le hP ?_
      exact st_retL 1 hq
theorem ok_first_use (T : Txt K mg) : Has P w K mg base 4 "first_use" ["grammar", "told", "picture", "name"] fuseS := by
  refine Has.of (k := 3) T.f_first_use sc_first_use (fun A Q R ⟨g, M, p, r, c, n, v, e, _⟩ => by rw [e]; rfl) fun f cdv A outer s0 H E hr Γ Q R ⟨g, M, p, r, c, n, v, e, hg, hgl, hn, ho, hp, hv, hq⟩ => ?_
  subst e
  refine st_set 4 (x := v) (ev_dget hr (l := (Dic.mk M : Dic T2x Int)) (x := ((shw p, n) : T2x)) (y := v) (ev_var 1) (ev_pair (ev_call (x := shw p) (ok_shown T) (hr.mono (by decide)) (ea_cons (x := p) (ev_var 2) ea_nil) fun P R h => ⟨p, r, c, rfl, hp, h⟩) (ev_var 3)) hv) ?_ sc_first_use.nd
  have hend : ∀ (j : Nat) (ns : List Int), ns = numbersL n g.rules → True := fun _ _ _ => trivial
  refine st_for (xs := numbersL n g.rules) (fun j Γ => (usesAll g.rules ((numbersL n g.rules).take j) p).find? (hits M g.rules v) = none ∧ Le Γ [vl g, vl (Dic.mk M : Dic T2x Int), vl p, vl n, vl v, .no, .no, .no]) (src_list (ev_of_en (en_of_ex (ex_of_exx (exx_meth (x := g) T.o_Grammar (ok_Grammar_numbers_of T) (hr.mono (by omega)) rfl (lk rfl) (ev_var 0) (ea_cons (x := n) (ev_var 3) ea_nil) fun P' R' h' _ => ⟨g, n, rfl, by omega, fun _ => h' _ rfl, fun z => absurd hn z⟩))))) (tg_name 5) ⟨rfl, by walk_at "le"⟩ (fun j i Γ1 hj hP => ?_) (fun Γ1 hP => ?_) (pgn 5 sc_first_use.nd)
  · obtain ⟨hnone, le⟩ := hP
    obtain ⟨kk, rfl, hri, hrn, hrm⟩ := numbers_at (List.mem_of_getElem? hj)
    refine st_le (Le.set le 5 _) ?_
    have htk : (numbersL n g.rules).take (j + 1) = (numbersL n g.rules).take j ++ [(kk : Int)] := by rw [List.take_add_one, hj]; rfl
    have hall : usesAll g.rules ((numbersL n g.rules).take (j + 1)) p = usesAll g.rules ((numbersL n g.rules).take j) p ++ (usesP (ruleF g.rules (kk : Int)) p).map fun u => ((kk : Int), u) := by
      unfold usesAll
      rw [htk, List.flatMap_append, List.flatMap_cons, List.flatMap_nil, List.append_nil]
    have hfu : firstUse M g.rules p n v = ((usesP (ruleF g.rules (kk : Int)) p).map (fun u => ((kk : Int), u)) ++ usesAll g.rules ((numbersL n g.rules).drop (j + 1)) p).find? (hits M g.rules v) := by
      have : usesAll g.rules (numbersL n g.rules) p = usesAll g.rules ((numbersL n g.rules).take j) p ++ ((usesP (ruleF g.rules (kk : Int)) p).map (fun u => ((kk : Int), u)) ++ usesAll g.rules ((numbersL n g.rules).drop (j + 1)) p) := by
        rw [← List.append_assoc, ← hall]
        unfold usesAll
        rw [← List.flatMap_append, List.take_append_drop]
      unfold firstUse
      rw [this]
      exact find_app hnone
    obtain ⟨ru, hru⟩ : ∃ q, q = ruleF g.rules (kk : Int) := ⟨_, rfl⟩
    rw [← hru] at hri hrm hall hfu
    refine st_set 6 (x := ru) (ev_of_ex (ex_of_exx (exx_meth (x := g) T.o_Grammar (ok_Grammar_rule T) (hr.mono (by omega)) rfl (lk rfl) (ev_var 0) (ea_cons (x := (kk : Int)) (ev_var 5) ea_nil) fun P' R' h' _ => ⟨g, _, ru, rfl, atI_nat hri, h' _ rfl⟩))) ?_ sc_first_use.nd
    refine st_for (xs := usesP ru p) (fun m Γ => (((usesP ru p).take m).map fun u => ((kk : Int), u)).find? (hits M g.rules v) = none ∧ Le Γ [vl g, vl (Dic.mk M : Dic T2x Int), vl p, vl n, vl v, vl (kk : Int), vl ru, .no]) (src_list (ev_of_en (en_call (ok_uses_for T) (hr.mono (by decide)) (ea_cons (x := ru) (ev_var 6) (ea_cons (x := p) (ev_var 2) ea_nil)) fun P' R' h => ⟨ru, p, r, c, rfl, hg ru hrm, ho, hp, h⟩))) (tg_name 7) ⟨rfl, by walk_at "le"⟩ (fun m u Γ2 hm hP2 => ?_) (fun Γ2 hP2 => ?_) (pgn 7 sc_first_use.nd)
    · obtain ⟨hn2, le2⟩ := hP2
      have hum := List.mem_of_getElem? hm
      refine st_le (Le.set le2 7 _) ?_
      have hsh : ∀ o : Option Int, ((isdOpt (α := Int)).d o).Shp := fun o => by
        cases o with
        | none => exact ⟨trivial, by show (0 : Nat) ≤ 64; decide⟩
        | some z => exact ⟨trivial, by show (0 : Nat) ≤ 64; decide⟩
      refine st_if (k := decide (costByP M ru u = some v)) (et_cmp (o_eqY (x := costByP M ru u) (y := v) (kb := decide (costByP M ru u = some v)) hr (hsh _) ⟨trivial, by show (0 : Nat) ≤ 64; decide⟩ (by
          rw [decide_eq_true_eq]
          cases hcc : costByP M ru u with
          | none => exact ⟨(fun z => nomatch z), (fun z => by cases (show Dy.n = Dy.i v from z))⟩
          | some z => exact ⟨(fun y => congrArg Dy.i (Option.some.inj y)), (fun h => by cases (show Dy.i z = Dy.i v from h); rfl)⟩)) (ev_call (x := costByP M ru u) (ok_cost_by T) (hr.mono (by decide)) (ea_cons (x := ru) (ev_var 6) (ea_cons (x := u) (ev_var 7) (ea_cons (x := (Dic.mk M : Dic T2x Int)) (ev_var 1) ea_nil))) fun P R h => ⟨ru, u, M, rfl, use_pk hp hum, h⟩) (ev_var 4)) (fun h => ?_) (fun h => st_nil (st_nil ⟨?_, by walk_at "le"⟩))
      · have h := of_decide_eq_true h
        refine st_retV (x := (some ((kk : Int), u) : Option (Int × Use))) (ev_some (ev_pair (x := (kk : Int)) (y := u) (ev_var 5) (ev_var 7))) ?_
        have : firstUse M g.rules p n v = some ((kk : Int), u) := by
          rw [hfu]
          have e : usesP ru p = (usesP ru p).take m ++ u :: (usesP ru p).drop (m + 1) := by
            obtain ⟨hlt, ex⟩ := List.getElem?_eq_some_iff.mp hm
            rw [← ex, ← List.drop_eq_getElem_cons hlt, List.take_append_drop]
          rw [e, List.map_append, List.append_assoc, find_app hn2, List.map_cons, List.cons_append, List.find?_cons]
          rw [show hits M g.rules v ((kk : Int), u) = true from decide_eq_true (by rw [← hru]; exact h)]
        rw [this] at hq
        exact hq
      · have h := of_decide_eq_false h
        rw [take_snoc hm, List.map_append, find_app hn2, List.map_cons, List.map_nil, List.find?_cons]
        rw [show hits M g.rules v ((kk : Int), u) = false from decide_eq_false (by rw [← hru]; exact h)]
        rfl
    · obtain ⟨hn2, le2⟩ := hP2
      rw [List.take_length] at hn2
      refine st_nil ⟨?_, le2.trans (by walk_at "le")⟩
      rw [hall, find_app hnone]
      exact hn2
  · obtain ⟨hnone, le⟩ := hP
    rw [List.take_length] at hnone
    refine st_le le (st_retV (x := (none : Option (Int × Use))) (ev_nonO (i := inferInstanceAs (Rep (Int × Use)))) ?_)
    rw [show firstUse M g.rules p n v = none from hnone] at hq
    exact hq
end
local macro_rules | `(tactic| walk_at "le") => `(tactic| repeat (first | exact le_nil | refine le_cons ?_ | refine le_no ?_))
theorem put_parts {s : Bool} {p : Pic} {r c n : Nat} (hp : Pk p r c) : putT s (partA s p n) (partB s p n) = p := by
  cases s with
  | true =>
    show List.zipWith (· ++ ·) (p.map (List.take n)) (p.map (List.drop n)) = p
    induction p generalizing r with
    | nil => rfl
    | cons x p ih =>
      rw [List.map_cons, List.map_cons, List.zipWith_cons_cons, List.take_append_drop]
      congr 1
      have key : ∀ l : Pic, List.zipWith (· ++ ·) (l.map (List.take n)) (l.map (List.drop n)) = l := fun l => by
        induction l with
        | nil => rfl
        | cons y l ih => rw [List.map_cons, List.map_cons, List.zipWith_cons_cons, List.take_append_drop, ih]
      exact key p
  | false => exact List.take_append_drop n p
local macro_rules | `(tactic| walk_at "le") => `(tactic| repeat (first | exact le_nil | refine le_cons ?_ | refine le_no ?_))
noncomputable def TooManyX : Exn := ⟨"TooMany", "", .no⟩
theorem ftree_none {rs : List RuleD} {M : Tab} {f : Nat} {p : Pic} {n : Tx} {v k : Int} {use : Use} (hv : look M (shw p, n) = some v) (hu : firstUse M rs p n v = some (k, use)) {x : Pic × Tx} (hx : x ∈ use) (h : ftree rs M f x.1 x.2 = none) : ftree rs M (f + 1) p n = none := by
  simp only [ftree, hv, hu]
  rw [if_neg]
  intro hall
  have := List.all_eq_true.mp hall x hx
  rw [h] at this
  cases this
noncomputable def grownXS (d : Nat) : Tw.Spec := fun A P R => ∃ (g : GramD) (M : Tab) (S : List Pic) (p : Pic) (n : Tx) (v : Int), A = [vl g, vl (Dic.mk M : Dic T2x Int), vl p, vl n, vl (d : Int)] ∧ (∀ q ∈ g.rules, q.good = true) ∧ g.rules.length ≤ 100 ∧ FtPre g.rules g.names S M ∧ (∀ s ∈ S, PicOk s) ∧ p ∈ S ∧ d ≤ 900 ∧ look M (shw p, n) = some v ∧ (∀ t, ftree g.rules M d p n = some t → P (rv t)) ∧ (ftree g.rules M d p n = none → R TooManyX)
section
variable {P : Program} {w : World} {K : PySem.W.Frag} {mg : Str → Option Value} {base : Heap}
theorem ok_grownX (T : Txt K mg) : ∀ d, Has P w K mg base (5 + d) "grown" ["grammar", "told", "picture", "name", "room"] (grownXS d) := by
  intro d
  induction d with
  | zero =>
    refine Has.ofX (k := 4) T.f_grown sc_grown (fun A Q R ⟨g, M, S, p, n, v, e, _⟩ => by rw [e]; rfl) fun f cdv A outer s0 H E hr Γ Q R ⟨g, M, S, p, n, v, e, hg, hgl, hF, hok, hpS, hd9, hv, h1, h2⟩ => ?_
    subst e
    refine st_if (k := true) (et_eq (et_cmp o_eq (ev_var (x := ((0 : Nat) : Int)) 4) ev_int) rfl) (fun _ => ?_) (fun h => nomatch h)
    exact st_raise0 T.x_TooMany T.p_TooMany (h2 rfl)
  | succ d ih =>
    refine Has.ofX (k := 5 + d) T.f_grown sc_grown (fun A Q R ⟨g, M, S, p, n, v, e, _⟩ => by rw [e]; rfl) fun f cdv A outer s0 H E hr Γ Q R ⟨g, M, S, p, n, v, e, hg, hgl, hF, hok, hpS, hd9, hv, h1, h2⟩ => ?_
    subst e
    obtain ⟨r, c, hp⟩ := hF.pk p hpS
    have ho := hok p hpS
    obtain ⟨k, use, hfu, hnm⟩ := hF.first hpS hv
    obtain ⟨hk, hu, hc⟩ := firstUse_some hfu
    have hparts : ∀ x ∈ use, ∃ w, look M (shw x.1, x.2) = some w := costAcc_parts_some hc
    have hclo := hF.clo p hpS _ use hu
    refine st_if (k := false) (et_eq (et_cmp o_eq (ev_var 4) ev_int) (decide_eq_false (by omega))) (fun h => nomatch h) (fun _ => st_nil ?_)
    refine st_unpack2 5 6 (x := (k, use)) (ev_un (x := (k, use)) (ev_eq (ev_call (x := firstUse M g.rules p n v) (ok_first_use T) (hr.mono (by omega)) (ea_cons (x := g) (ev_var 0) (ea_cons (x := (Dic.mk M : Dic T2x Int)) (ev_var 1) (ea_cons (x := p) (ev_var 2) (ea_cons (x := n) (ev_var 3) ea_nil)))) fun P R h => ⟨g, M, p, r, c, n, v, rfl, hg, hgl, hnm, ho, hp, hv, h⟩) hfu)) ?_ (pg2 5 6 (pgn 5 sc_grown.nd) (pgn 6 sc_grown.nd))
    have hul : use.length ≤ 2 := by
      have h := hu
      generalize ruleF g.rules k = q at h
      cases q with
      | cell n' k' s' =>
        have h : use ∈ (if p = [s'] then [[]] else ([] : List Use)) := h
        split at h
        · rw [List.mem_singleton.mp h]; exact Nat.zero_le _
        · exact (List.not_mem_nil h).elim
      | turn _ _ _ _ =>
        have h : use ∈ [[(_, _)]] := h
        rw [List.mem_singleton.mp h]; exact Nat.le_succ _
      | beside _ _ a b =>
        obtain ⟨_, _, e⟩ := List.mem_map.mp h
        rw [← e]; exact Nat.le_refl _
      | above _ _ a b =>
        obtain ⟨_, _, e⟩ := List.mem_map.mp h
        rw [← e]; exact Nat.le_refl _
    refine st_setLcX 7 (α := Pic × Tx) (β := Tr) (own := [("part", 8), ("wanted", 9)]) (xs := use) (G := fun x t => ftree g.rules M d x.1 x.2 = some t) (R := fun x e => e = TooManyX ∧ ftree g.rules M d x.1 x.2 = none) (src_list (ev_var 6)) (tg_pair 8 9 (by decide)) (fun _ _ _ _ _ => pg2 8 9 (pgn 8 sc_grown.nd) (pgn 9 sc_grown.nd)) (fun x hx _ _ _ _ => by
      obtain ⟨w', hw'⟩ := hparts x hx
      exact exx_call ih (hr.mono (by omega)) (ea_cons (x := g) (ev_var 0) (ea_cons (x := (Dic.mk M : Dic T2x Int)) (ev_var 1) (ea_cons (x := x.1) (ev_var 8) (ea_cons (x := x.2) (ev_var 9) (ea_cons (x := (d : Int)) (ev_eq (ev_bin o_sub (ev_var 4) ev_int) (by omega)) ea_nil))))) fun P' R' q1 q2 => ⟨g, M, S, x.1, x.2, w', rfl, hg, hgl, hF, hok, hclo x hx, by omega, hw', fun t ht => q1 _ ⟨t, ht, rfl⟩, fun hn => q2 _ ⟨rfl, hn⟩⟩) sc_grown.nd (sl_small (by omega)) (fun ad ts hl hG => ?_) (fun i x hx _ e he => ?_) (ok := bk_grown (by decide +kernel))
    · have hts : (use.map fun x => (ftree g.rules M d x.1 x.2).getD (.node 0 [])) = ts := by
        apply List.ext_getElem?
        intro i
        rw [List.getElem?_map]
        cases hx : use[i]? with
        | none =>
          have h0 := List.getElem?_eq_none_iff.mp hx
          rw [List.getElem?_eq_none (by omega)]; rfl
        | some x =>
          have hi : i < ts.length := by have := (List.getElem?_eq_some_iff.mp hx).1; omega
          have hy : ts[i]? = some ts[i] := List.getElem?_eq_getElem hi
          have := hG i x _ hx hy
          rw [hy]
          show some ((ftree g.rules M d x.1 x.2).getD (.node 0 [])) = _
          rw [this]; rfl
      have hall : ∀ x ∈ use, ∃ s, ftree g.rules M d x.1 x.2 = some s := fun x hx => by
        obtain ⟨i, hi⟩ := List.getElem?_of_mem hx
        have hi2 : i < ts.length := by have := (List.getElem?_eq_some_iff.mp hi).1; omega
        exact ⟨_, hG i x _ hi (List.getElem?_eq_getElem hi2)⟩
      have hft := ftree_make hv hfu hall
      rw [hts] at hft
      refine st_freeze 7 (frozL (i := repTr)) ?_
      have htl : ts.length ≤ 2 := by omega
      refine st_retV (x := Tr.node k ts) (ev_ofTup (xs := [Dy.i k] ++ ts.map Tr.d) (ev_catT (xs := Tup.mk [Dy.i k]) (ys := Tup.mk (ts.map Tr.d)) (ev_tupH (es_cons (ev_d (α := Int) (ev_var 5)) es_nil)) (ev_tt (α := Tr) (β := Dy) (xs := Tup.mk ts) (ev_tupL T.b_tuple (ev_var 7)) (by show ts.map Tr.d = (ts.map Tr.d).map (fun x => x); rw [List.map_id'])) (by simp) (sl_small (by show 1 + (ts.map Tr.d).length ≤ _; rw [List.length_map]; omega))) ?_) (h1 _ hft)
      rw [Tr.d, Tr.ds_map]; rfl
    · rw [he.1]
      exact h2 (ftree_none hv hfu (List.mem_of_getElem? hx) he.2)
end
local macro_rules | `(tactic| walk_at "le") => `(tactic| repeat (first | exact le_nil | refine le_cons ?_ | refine le_no ?_))
theorem ftPre_of {g : GramD} {p : Pic} {r c : Nat} (hT : TblPre g p r c) (hns : NoSlash p) (hnm : ∀ q ∈ g.rules, q.name ∈ g.names ∧ ∀ m ∈ q.parts, m ∈ g.names) {M : Tab} (hM : TableOf g.rules p r c M) : FtPre g.rules g.names (seenL p r c) M := by
  have hp := hT.pk
  exact ⟨hM.least hp hns, fun q hq => good_cost (hT.good q hq), hnm, fun z hz => seen_pk hp (seenL_mem.mp hz), fun z hz z' hz' e => by
    obtain ⟨a, b, hzp⟩ := seen_pk hp (seenL_mem.mp hz)
    obtain ⟨a', b', hzp'⟩ := seen_pk hp (seenL_mem.mp hz')
    exact shw_inj hzp hzp' (sg_seen (Φ := fun k => k ≠ 47) hp hns (seenL_mem.mp hz)) (sg_seen (Φ := fun k => k ≠ 47) hp hns (seenL_mem.mp hz')) e, fun z hz q use hu y hy => seenL_mem.mpr (use_seen hp (seenL_mem.mp hz) hu y hy), fun z hz t => by
    obtain ⟨a, b, hzp⟩ := seen_pk hp (seenL_mem.mp hz)
    exact seenL_mem.mpr (seen_trans hp (seenL_mem.mp hz) hzp (seen_turn hzp t))⟩
noncomputable def firstXS : Tw.Spec := fun A P R => ∃ (g : GramD) (p : Pic) (r c : Nat) (nm : Option Tx), A = [vl g, vl p, vl nm] ∧ TblPre g p r c ∧ NoSlash p ∧ nameOf g nm ∈ g.names ∧ (∀ q ∈ g.rules, q.name ∈ g.names ∧ ∀ m ∈ q.parts, m ∈ g.names) ∧
  ∀ M, TableOf g.rules p r c M → (look M (shw p, nameOf g nm) = none → P (rv (none : Option Tr))) ∧ (∀ v, look M (shw p, nameOf g nm) = some v → (∀ t, ftree g.rules M 60 p (nameOf g nm) = some t → t.size ≤ 900 ∧ (t.size ≤ 200 → P (rv (some t))) ∧ (200 < t.size → R TooManyX)) ∧ (ftree g.rules M 60 p (nameOf g nm) = none → R TooManyX))
section
variable {P : Program} {w : World} {K : PySem.W.Frag} {mg : Str → Option Value} {base : Heap}
theorem ok_first_treeX (T : Txt K mg) : HasD P w K mg base 67 "first_tree" ["grammar", "picture", "name"] firstXS := by
  refine HasD.of (k := 66) T.f_first_tree sc_first_tree (fun A Q R ⟨g, p, r, c, nm, e, _⟩ => by rw [e]; rfl) fun f cdv A outer s0 H E hr Γ Q R ⟨g, p, r, c, nm, e, hp, hns, hn, hgn, hq⟩ => ?_
  subst e
  refine st_setX 2 (x := nameOf g nm) (R := fun _ => False) (exx_call (ok_name_in T) (hr.mono (by decide)) (ea_cons (x := g) (ev_var 0) (ea_cons (x := nm) (ev_var 2) ea_nil)) fun P' R' h _ => ⟨g, nm, rfl, hp.st, fun _ => h _ rfl, fun z => absurd hn z⟩) ?_ (fun _ z => z.elim) sc_first_tree.nd
  refine st_setO 3 (P0 := fun o => ∃ ad M, TableOf g.rules p r c M ∧ o = ownD T2x repInt ad M) (ex_call (ok_table_of T) (hr.mono (by decide)) (ea_cons (x := g) (ev_var 0) (ea_cons (x := p) (ev_var 1) ea_nil)) fun P' R' h => ⟨g, p, r, c, rfl, hp.good, hp.many, hp.ok, hp.pk, h _ rfl⟩) (fun o ⟨ad, M, hM, eo⟩ => ?_) sc_first_tree.nd
  subst eo
  refine st_freeze 3 (x := (Dic.mk M : Dic T2x Int)) frozD ?_
  obtain ⟨h1, h2⟩ := hq M hM
  obtain ⟨n, hnn⟩ : ∃ n, n = nameOf g nm := ⟨_, rfl⟩
  rw [← hnn] at h1 h2 hn ⊢
  have hF := ftPre_of hp hns hgn hM
  refine st_le (Γ' := [vl g, vl p, vl n, vl (Dic.mk M : Dic T2x Int), .no]) (by walk_at "le") ?_
  cases hl : look M (shw p, n) with
  | none =>
    refine st_if (k := true) (et_eq (et_dnotin hr (l := (Dic.mk M : Dic T2x Int)) (x := ((shw p, n) : T2x)) (ev_pair (ev_call (x := shw p) (ok_shown T) (hr.mono (by decide)) (ea_cons (x := p) (ev_var 1) ea_nil) fun P R h => ⟨p, r, c, rfl, hp.pk, h⟩) (ev_var 2)) (ev_var 3)) (by rw [hl]; rfl)) (fun _ => ?_) (fun h => nomatch h)
    exact st_retV (x := (none : Option Tr)) (ev_nonO (i := repTr)) (h1 hl)
  | some v =>
    refine st_if (k := false) (et_eq (et_dnotin hr (l := (Dic.mk M : Dic T2x Int)) (x := ((shw p, n) : T2x)) (ev_pair (ev_call (x := shw p) (ok_shown T) (hr.mono (by decide)) (ea_cons (x := p) (ev_var 1) ea_nil) fun P R h => ⟨p, r, c, rfl, hp.pk, h⟩) (ev_var 2)) (ev_var 3)) (by rw [hl]; rfl)) (fun h => nomatch h) (fun _ => st_nil ?_)
    obtain ⟨q1, q2⟩ := h2 v hl
    obtain ⟨tok, hc60⟩ := T.c_MOST_WITHIN
    obtain ⟨tok2, hc200⟩ := T.c_MOST_NUMBERS
    have hsm : p ∈ seenL p r c := seenL_mem.mpr (seen_self hp.pk)
    have hso : ∀ s ∈ seenL p r c, PicOk s := fun s hs => seen_ok hp.ok (seenL_mem.mp hs)
    cases hft : ftree g.rules M 60 p n with
    | none =>
      exact st_setR 4 (R := fun y => y = TooManyX) (exx_call (ok_grownX T 60) (hr.mono (by decide)) (ea_cons (x := g) (ev_var 0) (ea_cons (x := (Dic.mk M : Dic T2x Int)) (ev_var 3) (ea_cons (x := p) (ev_var 1) (ea_cons (x := n) (ev_var 2) (ea_cons (x := ((60 : Nat) : Int)) (ev_gint hc60) ea_nil))))) fun P' R' _ z => ⟨g, M, seenL p r c, p, n, v, rfl, hp.good, Nat.le_trans hp.many (by decide), hF, hso, hsm, by decide, hl, fun t ht => by rw [hft] at ht; (cases ht), fun _ => z _ rfl⟩) (fun y e => e ▸ q2 hft) sc_first_tree.nd
    | some t =>
      obtain ⟨hz9, k1, k2⟩ := q1 t hft
      refine st_setX 4 (x := t) (R := fun _ => False) (exx_call (ok_grownX T 60) (hr.mono (by decide)) (ea_cons (x := g) (ev_var 0) (ea_cons (x := (Dic.mk M : Dic T2x Int)) (ev_var 3) (ea_cons (x := p) (ev_var 1) (ea_cons (x := n) (ev_var 2) (ea_cons (x := ((60 : Nat) : Int)) (ev_gint hc60) ea_nil))))) fun P' R' z _ => ⟨g, M, seenL p r c, p, n, v, rfl, hp.good, Nat.le_trans hp.many (by decide), hF, hso, hsm, by decide, hl, fun t' ht => by rw [hft] at ht; (cases ht); exact z _ rfl, fun hn => by rw [hft] at hn; (cases hn)⟩) ?_ (fun _ z => z.elim) sc_first_tree.nd
      by_cases h200 : t.size ≤ 200
      · refine st_if (k := false) (et_eq (et_cmp o_gt (ev_len T.b_len (ev_of_en (en_call (xs := t.nums) (ok_numbers_in T 60) (hr.mono (by decide)) (ea_cons (x := t) (ev_var 4) ea_nil) fun P R h => ⟨t, rfl, ftree_dep hft, by omega, h⟩))) (ev_gint hc200)) (decide_eq_false (by rw [nums_len]; omega))) (fun h => nomatch h) (fun _ => st_nil ?_)
        exact st_retV (x := (some t : Option Tr)) (ev_some (ev_var 4)) (k1 h200)
      · refine st_if (k := true) (et_eq (et_cmp o_gt (ev_len T.b_len (ev_of_en (en_call (xs := t.nums) (ok_numbers_in T 60) (hr.mono (by decide)) (ea_cons (x := t) (ev_var 4) ea_nil) fun P R h => ⟨t, rfl, ftree_dep hft, by omega, h⟩))) (ev_gint hc200)) (decide_eq_true (by rw [nums_len]; omega))) (fun _ => ?_) (fun h => nomatch h)
        exact st_raise0 T.x_TooMany T.p_TooMany (k2 (by omega))
end
noncomputable def sumTau (τ : Nat → Nat) (p : Pic) : Nat := (p.flatten.map fun s => τ s + 1).sum
theorem sumTau_put {τ : Nat → Nat} {s : Bool} {p q : Pic} (h : s = true → p.length = q.length) : sumTau τ (putT s p q) = sumTau τ p + sumTau τ q := by
  unfold sumTau
  cases s with
  | true =>
    have h := h rfl
    show ((List.zipWith (· ++ ·) p q).flatten.map fun s => τ s + 1).sum = _
    induction p generalizing q with
    | nil => cases q with | nil => rfl | cons _ _ => cases h
    | cons x p ih =>
      cases q with
      | nil => cases h
      | cons y q =>
        have := ih (q := q) (fun _ => by simpa using h) (by simpa using h)
        rw [List.zipWith_cons_cons, List.flatten_cons, List.flatten_cons, List.flatten_cons, List.map_append, List.map_append, List.map_append, List.map_append, List.sum_append, List.sum_append, List.sum_append, List.sum_append, this]
        omega
  | false =>
    show ((p ++ q).flatten.map fun s => τ s + 1).sum = _
    rw [List.flatten_append, List.map_append, List.sum_append]
structure Chn (rs : List RuleD) (N : Nat → Tx) (c : Nat) (x : Tx) (τ : Nat → Nat) : Prop where
  all : ∀ q ∈ rs, (∃ k, q = .beside (N 0) k (N 0) (N 0)) ∨ (∃ k, q = .above (N 0) k (N 0) (N 0)) ∨ (∃ i k, i < c ∧ q = .turn (N i) k (N (i + 1)) 0) ∨ (∃ s k, s ∈ x ∧ q = .cell (N (τ s)) k [s])
  inj : ∀ i j, i ≤ c → j ≤ c → N i = N j → i = j
  le : ∀ s ∈ x, τ s ≤ c
  side : ∃ k, RuleD.beside (N 0) k (N 0) (N 0) ∈ rs
  over : ∃ k, RuleD.above (N 0) k (N 0) (N 0) ∈ rs
  turn : ∀ i < c, ∃ k, RuleD.turn (N i) k (N (i + 1)) 0 ∈ rs
  cell : ∀ s ∈ x, ∃ k, RuleD.cell (N (τ s)) k [s] ∈ rs
theorem pk_one {s : Nat} {r q : Nat} (h : Pk [[s]] r q) : r = 1 ∧ q = 1 := ⟨h.len.symm, (h.row [s] (List.mem_singleton.mpr rfl)).symm⟩
theorem Chn.size {rs : List RuleD} {N : Nat → Tx} {c : Nat} {x : Tx} {τ : Nat → Nat} {M : Tab} (h : Chn rs N c x τ) : ∀ (f : Nat) (p : Pic) (r q i : Nat) (t : Tr), Pk p r q → i ≤ c → ftree rs M f p (N i) = some t →
    (i = 0 → t.size + 1 = r * q + sumTau τ p) ∧ (0 < i → ∃ s, p = [[s]] ∧ i ≤ τ s ∧ t.size = τ s - i + 1) := by
  intro f
  induction f with
  | zero => intro p r q i t _ _ ht; cases ht
  | succ f ih =>
    intro p r q i t hp hi ht
    obtain ⟨v, k, use, hv, hfu, rfl, ha⟩ := ftree_step ht
    obtain ⟨hk, hu, hc⟩ := firstUse_some hfu
    obtain ⟨j, rfl, hri, hrn, hrm⟩ := numbers_at hk
    obtain ⟨hd1, hd2⟩ := hp.head
    have hl := hp.len
    generalize ruleF rs (j : Int) = ru at hu hrn hrm
    have two : ∀ (s : Bool) (n ra ca rb cb : Nat), use = [(partA s p n, N 0), (partB s p n, N 0)] → Pk (partA s p n) ra ca → Pk (partB s p n) rb cb → ra * ca + rb * cb = r * q → (s = true → ra = rb) →
        (Tr.node (j : Int) (use.map fun x => (ftree rs M f x.1 x.2).getD (.node 0 []))).size + 1 = r * q + sumTau τ p := by
      intro s n ra ca rb cb e h1 h2 hs hab
      subst e
      obtain ⟨s1, hs1⟩ := ha _ (List.mem_cons_self ..)
      obtain ⟨s2, hs2⟩ := ha _ (List.mem_cons_of_mem _ (List.mem_singleton.mpr rfl))
      have e1 := (ih _ _ _ 0 s1 h1 (Nat.zero_le _) hs1).1 rfl
      have e2 := (ih _ _ _ 0 s2 h2 (Nat.zero_le _) hs2).1 rfl
      have hsum := sumTau_put (τ := τ) (s := s) (p := partA s p n) (q := partB s p n) (fun z => by rw [h1.len, h2.len]; exact hab z)
      rw [put_parts hp] at hsum
      rw [Tr.size, sizes_le]
      show ((ftree rs M f (partA s p n) (N 0)).getD (.node 0 [])).size + (((ftree rs M f (partB s p n) (N 0)).getD (.node 0 [])).size + 0) + 1 + 1 = _
      have hs1 : ftree rs M f (partA s p n) (N 0) = some s1 := hs1
      have hs2 : ftree rs M f (partB s p n) (N 0) = some s2 := hs2
      rw [hs1, hs2]
      show s1.size + (s2.size + 0) + 1 + 1 = _
      omega
    rcases h.all ru hrm with ⟨k, rfl⟩ | ⟨k, rfl⟩ | ⟨i', k, hi', rfl⟩ | ⟨s, k, hs, rfl⟩
    · have hi0 : 0 = i := h.inj 0 i (Nat.zero_le _) hi hrn
      subst hi0
      refine ⟨fun _ => ?_, fun z => absurd z (Nat.lt_irrefl 0)⟩
      have hu : use ∈ pairs true p (N 0) (N 0) (p.headD []).length := hu
      obtain ⟨n, hn, e⟩ := List.mem_map.mp hu
      have hn := List.mem_range.mp hn
      rw [hd2] at hn
      obtain ⟨p1, p2⟩ := pk_side hp true (n := n + 1) (by omega) (show n + 1 < q by omega)
      exact two true (n + 1) r (n + 1) r (q - (n + 1)) e.symm p1 p2 (by rw [← Nat.mul_add]; congr 1; omega) fun _ => rfl
    · have hi0 : 0 = i := h.inj 0 i (Nat.zero_le _) hi hrn
      subst hi0
      refine ⟨fun _ => ?_, fun z => absurd z (Nat.lt_irrefl 0)⟩
      have hu : use ∈ pairs false p (N 0) (N 0) p.length := hu
      obtain ⟨n, hn, e⟩ := List.mem_map.mp hu
      have hn := List.mem_range.mp hn
      rw [hl] at hn
      obtain ⟨p1, p2⟩ := pk_side hp false (n := n + 1) (by omega) (show n + 1 < r by omega)
      exact two false (n + 1) (n + 1) q (r - (n + 1)) q e.symm p1 p2 (by rw [← Nat.add_mul]; congr 1; omega) fun z => nomatch z
    · have hii : i' = i := h.inj i' i (by omega) hi hrn
      subst hii
      have hu : use ∈ [[(turned p (backN (0 : Int).toNat), N (i' + 1))]] := hu
      have hu := List.mem_singleton.mp hu
      subst hu
      obtain ⟨s1, hs1⟩ := ha _ (List.mem_singleton.mpr rfl)
      have hs1 : ftree rs M f p (N (i' + 1)) = some s1 := hs1
      obtain ⟨s, hps, hle, hz⟩ := (ih p r q (i' + 1) s1 hp (by omega) hs1).2 (Nat.succ_pos _)
      have hsz : (Tr.node (j : Int) ([(turned p (backN (0 : Int).toNat), N (i' + 1))].map fun x => (ftree rs M f x.1 x.2).getD (.node 0 []))).size = τ s - i' + 1 := by
        rw [Tr.size, sizes_le]
        show ((ftree rs M f p (N (i' + 1))).getD (.node 0 [])).size + 0 + 1 = _
        rw [hs1]
        show s1.size + 0 + 1 = _
        omega
      rw [hsz]
      refine ⟨fun z => ?_, fun _ => ⟨s, hps, by omega, rfl⟩⟩
      subst z hps
      obtain ⟨rfl, rfl⟩ := pk_one hp
      show τ s - 0 + 1 + 1 = 1 * 1 + (τ s + 1 + 0)
      omega
    · have hii : τ s = i := h.inj (τ s) i (h.le s hs) hi hrn
      have hu : use ∈ (if p = [[s]] then [[]] else ([] : List Use)) := hu
      split at hu
      · rename_i hps
        have hu := List.mem_singleton.mp hu
        subst hu hps
        have hsz : (Tr.node (j : Int) (([] : Use).map fun x => (ftree rs M f x.1 x.2).getD (.node 0 []))).size = 1 := by
          rw [Tr.size, sizes_le]; rfl
        rw [hsz]
        obtain ⟨rfl, rfl⟩ := pk_one hp
        refine ⟨fun z => ?_, fun _ => ⟨s, rfl, by omega, by omega⟩⟩
        show 1 + 1 = 1 * 1 + (τ s + 1 + 0)
        omega
      · exact (List.not_mem_nil hu).elim
theorem Chn.ex {rs : List RuleD} {N : Nat → Tx} {c : Nat} {x : Tx} {τ : Nat → Nat} {names : List Tx} {S : List Pic} {M : Tab} (h : Chn rs N c x τ) (hF : FtPre rs names S M) : ∀ (m : Nat) (p : Pic) (r q i : Nat), p ∈ S → Pk p r q → i ≤ c → (i = 0 → r * q + c ≤ m) → (0 < i → c - i + 1 ≤ m) → ∀ v, look M (shw p, N i) = some v → ∀ f, m ≤ f → ∃ t, ftree rs M f p (N i) = some t := by
  intro m
  induction m with
  | zero =>
    intro p r q i _ hp hi h0 h1
    have := Nat.mul_pos hp.r0 hp.c0
    by_cases z : i = 0
    · have := h0 z; omega
    · have := h1 (by omega); omega
  | succ m ih =>
    intro p r q i hpS hp hi h0 h1 v hv f hf
    obtain ⟨f, rfl⟩ : ∃ f', f = f' + 1 := ⟨f - 1, by omega⟩
    have hrq := Nat.mul_pos hp.r0 hp.c0
    obtain ⟨k, use, hfu, _⟩ := hF.first hpS hv
    obtain ⟨hk, hu, hc⟩ := firstUse_some hfu
    obtain ⟨j, rfl, hri, hrn, hrm⟩ := numbers_at hk
    have hparts : ∀ x ∈ use, ∃ w, look M (shw x.1, x.2) = some w := costAcc_parts_some hc
    have hclo := hF.clo p hpS _ use hu
    obtain ⟨hd1, hd2⟩ := hp.head
    have hl := hp.len
    generalize ruleF rs (j : Int) = ru at hu hrn hrm hclo hc
    refine ⟨_, ftree_make hv hfu fun y hy => ?_⟩
    obtain ⟨w, hw⟩ := hparts y hy
    have hyS := hclo y hy
    rcases h.all ru hrm with ⟨k, rfl⟩ | ⟨k, rfl⟩ | ⟨i', k, hi', rfl⟩ | ⟨s, k, hs, rfl⟩
    · have hi0 : 0 = i := h.inj 0 i (Nat.zero_le _) hi hrn
      have h0 := h0 hi0.symm
      have hu : use ∈ pairs true p (N 0) (N 0) (p.headD []).length := hu
      obtain ⟨n, hn, e⟩ := List.mem_map.mp hu
      have hn := List.mem_range.mp hn
      rw [hd2] at hn
      obtain ⟨p1, p2⟩ := pk_side hp true (n := n + 1) (by omega) (show n + 1 < q by omega)
      have p1 : Pk (partA true p (n + 1)) r (n + 1) := p1
      have p2 : Pk (partB true p (n + 1)) r (q - (n + 1)) := p2
      have hb1 : r * (n + 1) < r * q := Nat.mul_lt_mul_of_pos_left (by omega) hp.r0
      have hb2 : r * (q - (n + 1)) < r * q := Nat.mul_lt_mul_of_pos_left (by omega) hp.r0
      rw [← e] at hy
      rcases List.mem_cons.mp hy with rfl | hy
      · exact ih _ _ _ 0 hyS p1 (Nat.zero_le _) (fun _ => by omega) (fun z => absurd z (Nat.lt_irrefl 0)) w hw f (by omega)
      · have hy := List.mem_singleton.mp hy
        subst hy
        exact ih _ _ _ 0 hyS p2 (Nat.zero_le _) (fun _ => by omega) (fun z => absurd z (Nat.lt_irrefl 0)) w hw f (by omega)
    · have hi0 : 0 = i := h.inj 0 i (Nat.zero_le _) hi hrn
      have h0 := h0 hi0.symm
      have hu : use ∈ pairs false p (N 0) (N 0) p.length := hu
      obtain ⟨n, hn, e⟩ := List.mem_map.mp hu
      have hn := List.mem_range.mp hn
      rw [hl] at hn
      obtain ⟨p1, p2⟩ := pk_side hp false (n := n + 1) (by omega) (show n + 1 < r by omega)
      have p1 : Pk (partA false p (n + 1)) (n + 1) q := p1
      have p2 : Pk (partB false p (n + 1)) (r - (n + 1)) q := p2
      have hb1 : (n + 1) * q < r * q := Nat.mul_lt_mul_of_pos_right (by omega) hp.c0
      have hb2 : (r - (n + 1)) * q < r * q := Nat.mul_lt_mul_of_pos_right (by omega) hp.c0
      rw [← e] at hy
      rcases List.mem_cons.mp hy with rfl | hy
      · exact ih _ _ _ 0 hyS p1 (Nat.zero_le _) (fun _ => by omega) (fun z => absurd z (Nat.lt_irrefl 0)) w hw f (by omega)
      · have hy := List.mem_singleton.mp hy
        subst hy
        exact ih _ _ _ 0 hyS p2 (Nat.zero_le _) (fun _ => by omega) (fun z => absurd z (Nat.lt_irrefl 0)) w hw f (by omega)
    · have hii : i' = i := h.inj i' i (by omega) hi hrn
      subst hii
      have hu : use ∈ [[(turned p (backN (0 : Int).toNat), N (i' + 1))]] := hu
      have hu := List.mem_singleton.mp hu
      subst hu
      have hy := List.mem_singleton.mp hy
      subst hy
      exact ih p r q (i' + 1) hyS hp (by omega) (fun z => by omega) (fun _ => by
        by_cases z : i' = 0
        · have := h0 z; omega
        · have := h1 (by omega); omega) w hw f (by omega)
    · have hu : use ∈ (if p = [[s]] then [[]] else ([] : List Use)) := hu
      split at hu
      · have hu := List.mem_singleton.mp hu
        subst hu
        exact (List.not_mem_nil hy).elim
      · exact (List.not_mem_nil hu).elim
theorem Chn.der {rs : List RuleD} {N : Nat → Tx} {c : Nat} {x : Tx} {τ : Nat → Nat} (h : Chn rs N c x τ) : ∀ (m : Nat) (p : Pic) (r q : Nat), Pk p r q → r + q ≤ m → (∀ y ∈ p, ∀ k ∈ y, k ∈ x) → ∃ v, Der rs p (N 0) v := by
  have one : ∀ (s : Nat), s ∈ x → ∀ j, j ≤ τ s → ∃ v, Der rs [[s]] (N (τ s - j)) v := fun s hs j => by
    induction j with
    | zero =>
      intro _
      obtain ⟨k, hk⟩ := h.cell s hs
      exact ⟨_, Der.cell hk⟩
    | succ j ih =>
      intro hj
      obtain ⟨v, hv⟩ := ih (by omega)
      have hτ := h.le s hs
      obtain ⟨k, hk⟩ := h.turn (τ s - (j + 1)) (by omega)
      rw [show τ s - (j + 1) + 1 = τ s - j by omega] at hk
      have := Der.turn hk (⟨rfl, fun y hy => by rw [List.mem_singleton.mp hy]; rfl, by decide, by decide, by decide, by decide⟩ : Pk [[s]] 1 1) (by decide) (by decide) hv
      exact ⟨_, this⟩
  intro m
  induction m with
  | zero => intro p r q hp hm; exact absurd hp.r0 (by omega)
  | succ m ih =>
    intro p r q hp hm hx
    have hr0 := hp.r0
    have hc0 := hp.c0
    by_cases h1 : 1 < q
    · obtain ⟨p1, p2⟩ := pk_side hp true (n := 1) (by decide) (show 1 < q by omega)
      have p1 : Pk (partA true p 1) r 1 := p1
      have p2 : Pk (partB true p 1) r (q - 1) := p2
      obtain ⟨v1, d1⟩ := ih _ r 1 p1 (by omega) (sg_partA hx true 1)
      obtain ⟨v2, d2⟩ := ih _ r (q - 1) p2 (by omega) (sg_partB hx true 1)
      obtain ⟨k, hk⟩ := h.side
      have := Der.side hk p1 p2 d1 d2
      rw [put_parts hp] at this
      exact ⟨_, this⟩
    · have hc1 : q = 1 := by omega
      by_cases h2 : 1 < r
      · obtain ⟨p1, p2⟩ := pk_side hp false (n := 1) (by decide) (show 1 < r by omega)
        have p1 : Pk (partA false p 1) 1 q := p1
        have p2 : Pk (partB false p 1) (r - 1) q := p2
        obtain ⟨v1, d1⟩ := ih _ 1 q p1 (by omega) (sg_partA hx false 1)
        obtain ⟨v2, d2⟩ := ih _ (r - 1) q p2 (by omega) (sg_partB hx false 1)
        obtain ⟨k, hk⟩ := h.over
        have := Der.over hk p1 p2 d1 d2
        rw [put_parts hp] at this
        exact ⟨_, this⟩
      · have hr1 : r = 1 := by omega
        subst hc1 hr1
        obtain ⟨y, l, rfl, hy⟩ := hp.hd
        have hq : l = [] := by have := hp.len; simpa using this
        subst hq
        obtain ⟨ch, rfl⟩ : ∃ ch, y = [ch] := List.length_eq_one_iff.mp hy
        obtain ⟨v, hv⟩ := one ch (hx _ (List.mem_cons_self ..) ch (List.mem_cons_self ..)) (τ ch) (Nat.le_refl _)
        rw [Nat.sub_self] at hv
        exact ⟨v, hv⟩
local macro_rules | `(tactic| walk_at "le") => `(tactic| repeat (first | exact le_nil | refine le_cons ?_ | refine le_no ?_))
theorem Tr.deps_get : ∀ {ts : List Tr}, ts ≠ [] → ∃ s ∈ ts, s.dep = Tr.deps ts
  | [], h => absurd rfl h
  | [t], _ => ⟨t, List.mem_singleton.mpr rfl, by rw [Tr.deps, Tr.deps]; omega⟩
  | t :: u :: ts, _ => by
    obtain ⟨s, hs, e⟩ := Tr.deps_get (ts := u :: ts) (fun h => nomatch h)
    rw [Tr.deps]
    by_cases z : t.dep ≤ Tr.deps (u :: ts)
    · exact ⟨s, List.mem_cons_of_mem _ hs, by omega⟩
    · exact ⟨t, List.mem_cons_self .., by omega⟩
theorem best_deps (ts : List Tr) : bestI 0 (ts.map fun s => (s.dep : Int)) = (Tr.deps ts : Int) := by
  have h1 : bestI 0 (ts.map fun s => (s.dep : Int)) ≤ (Tr.deps ts : Int) := bestI_le (fun y hy => by
    obtain ⟨s, hs, rfl⟩ := List.mem_map.mp hy
    have := Tr.deps_mem hs
    omega) (by omega)
  cases ts with
  | nil => rw [Tr.deps]; rfl
  | cons t ts =>
    obtain ⟨s, hs, e⟩ := Tr.deps_get (ts := t :: ts) (fun h => nomatch h)
    have h2 : (s.dep : Int) ≤ bestI 0 ((t :: ts).map fun s => (s.dep : Int)) := bestI_ge (List.mem_map.mpr ⟨s, hs, rfl⟩)
    rw [e] at h2
    exact Int.le_antisymm h1 h2
theorem subs_le (t : Tr) : t.subs.length ≤ t.size := by
  have : ∀ ts : List Tr, ts.length ≤ Tr.sizes ts := by
    intro ts
    induction ts with
    | nil => exact Nat.zero_le _
    | cons t ts ih =>
      rw [Tr.sizes, List.length_cons]
      have := Tr.size_eq t
      omega
  have := this t.subs
  rw [Tr.size_eq]
  omega
noncomputable def manyLS (d : Nat) : Tw.Spec := fun A P _ => ∃ (t : Tr), A = [vl t] ∧ t.dep ≤ d ∧ P (rv (t.size : Int))
noncomputable def deepLS (d : Nat) : Tw.Spec := fun A P _ => ∃ (t : Tr), A = [vl t] ∧ t.dep ≤ d ∧ t.size ≤ 900 ∧ P (rv (t.dep : Int))
noncomputable def asked27S : Tw.Spec := fun A P _ => ∃ (g : GramD) (p : Pic) (r c : Nat), A = [vl g, vl p] ∧ TblPre g p r c ∧ NoSlash p ∧ (∀ q ∈ g.rules, q.name ∈ g.names ∧ ∀ m ∈ q.parts, m ∈ g.names) ∧
  (∀ M, TableOf g.rules p r c M → (∃ v, look M (shw p, g.start) = some v) ∧ ∀ t, ftree g.rules M 60 p g.start = some t → t.size ≤ 900) ∧
  (((∀ M, TableOf g.rules p r c M → ∃ t, ftree g.rules M 60 p g.start = some t ∧ t.size ≤ 200) ∧ ∀ M t, TableOf g.rules p r c M → ftree g.rules M 60 p g.start = some t → P (rv ((some t, []) : Option Tr × List Bool))) ∨
    ((∀ M t, TableOf g.rules p r c M → ftree g.rules M 60 p g.start = some t → 200 < t.size) ∧ P (rv ((none, [true, false, false, false]) : Option Tr × List Bool))))
section
variable {P : Program} {w : World} {K : PySem.W.Frag} {mg : Str → Option Value} {base : Heap}
theorem ok_law_numbers (T : Txt K mg) : ∀ d, Has P w K mg base (1 + d) "_law_numbers" ["_law_tree"] (manyLS d) := by
  intro d
  induction d with
  | zero => exact Has.of (k := 0) T.f_law_numbers sc_law_numbers (fun A Q R ⟨t, e, _⟩ => by rw [e]; rfl) fun f cdv A outer s0 H E hr Γ Q R ⟨t, e, hd, _⟩ => absurd (Tr.dep_pos t) (by omega)
  | succ d ih =>
    refine Has.of (k := 1 + d) T.f_law_numbers sc_law_numbers (fun A Q R ⟨t, e, _⟩ => by rw [e]; rfl) fun f cdv A outer s0 H E hr Γ Q R ⟨t, e, hd, hq⟩ => ?_
    subst e
    have hse := Tr.size_eq t
    refine st_set 1 (x := (1 : Int)) ev_int ?_ sc_law_numbers.nd
    refine st_for (fun k Γ' => Le Γ' [vl t, vl (1 + (Tr.sizes (t.subs.take k) : Int)), .no]) (src_tup (ev_subs (t := t) (ev_var 0) ev_int)) (tg_name 2) (by rw [List.take_zero, Tr.sizes]; exact Le.refl) (fun k s Γ' hk hP => ?_) (fun Γ' hP => ?_) (pgn 2 sc_law_numbers.nd)
    · have hk : t.subs[k]? = some s := hk
      have hds := Tr.dep_sub (List.mem_of_getElem? hk)
      have htk : t.subs.take (k + 1) = t.subs.take k ++ [s] := by rw [List.take_add_one, hk]; rfl
      have hz : 1 + (Tr.sizes (t.subs.take (k + 1)) : Int) = 1 + (Tr.sizes (t.subs.take k) : Int) + (s.size : Int) := by
        rw [htk, Tr.sizes_app, Tr.sizes, Tr.sizes]
        omega
      refine st_le (Le.set hP 2 _) ?_
      refine st_set 1 (x := 1 + (Tr.sizes (t.subs.take k) : Int) + (s.size : Int)) (ev_bin o_add (ev_var 1) (ev_call (x := (s.size : Int)) ih (hr.mono (by omega)) (ea_cons (x := s) (ev_var 2) ea_nil) fun P' R' h => ⟨s, rfl, by omega, h⟩)) (st_nil ?_) sc_law_numbers.nd
      show Le _ _
      rw [hz]
      exact le_cons (le_cons (le_no le_nil))
    · have hP : Le Γ' [vl t, vl (1 + (Tr.sizes (t.subs.take t.subs.length) : Int)), .no] := hP
      rw [List.take_length, show 1 + (Tr.sizes t.subs : Int) = (t.size : Int) by omega] at hP
      refine st_le hP ?_
      exact st_retV (ev_var 1) hq
theorem ok_law_deep (T : Txt K mg) : ∀ d, Has P w K mg base (1 + d) "_law_deep" ["_law_tree"] (deepLS d) := by
  intro d
  induction d with
  | zero => exact Has.of (k := 0) T.f_law_deep sc_law_deep (fun A Q R ⟨t, e, _⟩ => by rw [e]; rfl) fun f cdv A outer s0 H E hr Γ Q R ⟨t, e, hd, _⟩ => absurd (Tr.dep_pos t) (by omega)
  | succ d ih =>
    refine Has.of (k := 1 + d) T.f_law_deep sc_law_deep (fun A Q R ⟨t, e, _⟩ => by rw [e]; rfl) fun f cdv A outer s0 H E hr Γ Q R ⟨t, e, hd, hz, hq⟩ => ?_
    subst e
    have hse := Tr.size_eq t
    have hsl := subs_le t
    have hdep : t.dep = Tr.deps t.subs + 1 := by cases t with | node n ts => rw [Tr.dep]; rfl
    refine st_retV (x := (t.dep : Int)) (ev_eq (x := 1 + bestI 0 (t.subs.map fun s => (s.dep : Int))) (ev_bin o_add ev_int (ev_maxD T.b_max (ev_of_en (en_lc (α := Tr) (β := Int) (own := [("_law_part", 1)]) (f := fun s => (s.dep : Int)) (src_tup (ev_subs (t := t) (ev_var 0) ev_int)) (tg_name 1) (fun _ _ _ _ _ => pgn 1 sc_law_deep.nd) (fun s hs _ _ _ _ _ => ev_call (x := (s.dep : Int)) ih (hr.mono (by omega)) (ea_cons (x := s) (ev_var 1) ea_nil) fun P' R' h => ⟨s, rfl, by have := Tr.dep_sub hs; omega, by have := sizes_mem hs; omega, h⟩) sc_law_deep.nd (ok := bk_law_deep (by decide +kernel)) (hz := sl_small (by omega)))) ev_int)) (by rw [best_deps, hdep]; omega)) hq
theorem ok_law_asked (T : Txt K mg) : Has P w K mg base 68 "_law_asked" ["_law_grammar_here", "_law_picture"] asked27S := by
  refine Has.of (k := 67) T.f_law_asked sc_law_asked (fun A Q R ⟨g, p, r, c, e, _⟩ => by rw [e]; rfl) fun f cdv A outer s0 H E hr Γ Q R ⟨g, p, r, c, e, hp, hns, hgn, hall, h12⟩ => ?_
  subst e
  refine st_set 2 (x := (none : Option Tr)) (ev_nonO (i := repTr)) ?_ sc_law_asked.nd
  refine st_setN 3 (i := repBool) (xs := ([] : List Bool)) (en_lst es_nil) (fun ad => ?_) sc_law_asked.nd
  refine st_freeze 3 frozL ?_
  refine st_try 4 sc_law_asked.nd T.x_QuiltError fun pn xe hpass => ?_
  by_cases hex : ∃ M t, TableOf g.rules p r c M ∧ ftree g.rules M 60 p g.start = some t ∧ t.size ≤ 200
  · obtain ⟨M, t, hM, ht, hz⟩ := hex
    refine st_setX 2 (x := (some t : Option Tr)) (R := fun _ => False) (exx_callD (ok_first_treeX T) (hr.mono (by decide)) (ea_cons (x := g) (ev_var 0) (ea_cons (x := p) (ev_var 1) ea_nil)) fun P' R' h _ => ⟨g, p, r, c, none, rfl, hp, hns, hp.st, hgn, fun M' hM' => by
      have hlk := fun k => hM'.look_eq hp.good hp.pk hns hM k
      have ht' : ftree g.rules M' 60 p g.start = some t := by rw [ftree_congr hlk]; exact ht
      obtain ⟨⟨v, hv⟩, _⟩ := hall M' hM'
      refine ⟨fun h0 => ?_, fun v _ => ⟨fun t2 h2 => ?_, fun h2 => ?_⟩⟩
      · have h0 : look M' (shw p, g.start) = none := h0
        rw [hv] at h0; cases h0
      · have h2 : ftree g.rules M' 60 p g.start = some t2 := h2
        rw [ht'] at h2
        cases h2
        exact ⟨by omega, fun _ => h _ rfl, fun z => absurd hz (by omega)⟩
      · have h2 : ftree g.rules M' 60 p g.start = none := h2
        rw [ht'] at h2; cases h2⟩) (st_nil ?_) (fun _ z => z.elim) sc_law_asked.nd
    exact st_retV (x := ((some t, []) : Option Tr × List Bool)) (ev_pair (ev_var 2) (ev_var (x := ([] : List Bool)) 3)) (by
      rcases h12 with ⟨_, h1⟩ | ⟨h2, _⟩
      · exact h1 M t hM ht
      · exact absurd (h2 M t hM ht) (by omega))
  · rcases h12 with ⟨h1, _⟩ | ⟨_, h2⟩
    · exact st_setR 2 (R := fun _ => False) (exx_callD (ok_first_treeX T) (hr.mono (by decide)) (ea_cons (x := g) (ev_var 0) (ea_cons (x := p) (ev_var 1) ea_nil)) fun P' R' _ z => ⟨g, p, r, c, none, rfl, hp, hns, hp.st, hgn, fun M' hM' => by
        obtain ⟨t, ht, hz⟩ := h1 M' hM'
        exact absurd ⟨M', t, hM', ht, hz⟩ hex⟩) (fun _ z => z.elim) sc_law_asked.nd
    · refine st_setR 2 (R := fun y => y = TooManyX) (exx_callD (ok_first_treeX T) (hr.mono (by decide)) (ea_cons (x := g) (ev_var 0) (ea_cons (x := p) (ev_var 1) ea_nil)) fun P' R' _ z => ⟨g, p, r, c, none, rfl, hp, hns, hp.st, hgn, fun M' hM' => by
        obtain ⟨⟨v, hv⟩, h9⟩ := hall M' hM'
        refine ⟨fun h0 => ?_, fun v _ => ⟨fun t2 h2 => ?_, fun h2 => z _ rfl⟩⟩
        · have h0 : look M' (shw p, g.start) = none := h0
          rw [hv] at h0; cases h0
        · have h2 : ftree g.rules M' 60 p g.start = some t2 := h2
          exact ⟨h9 t2 h2, fun hz => absurd ⟨M', t2, hM', h2, hz⟩ hex, fun _ => z _ rfl⟩⟩) (fun y e => ?_) sc_law_asked.nd
      subst e
      refine .inl ⟨T.s_TooMany_QuiltError, fun a pn => ?_⟩
      refine st_setN 3 (xs := [true, false, false, false]) (en_lst (es_cons (ev_isiE (α := Err) T.b_isinstance T.x_TooMany T.x_TooMany T.s_TooMany_TooMany (ev_var 4)) (es_cons (ev_isiE (α := Err) T.b_isinstance T.x_TooMany T.x_NoFit T.s_TooMany_NoFit (ev_var 4)) (es_cons (ev_isiE (α := Err) T.b_isinstance T.x_TooMany T.x_NoName T.s_TooMany_NoName (ev_var 4)) (es_cons (ev_isiE (α := Err) T.b_isinstance T.x_TooMany T.x_NoNumber T.s_TooMany_NoNumber (ev_var 4)) es_nil))))) (fun ad => ?_) sc_law_asked.nd
      refine st_freeze 3 frozL (st_nil ?_)
      exact st_retV (x := ((none, [true, false, false, false]) : Option Tr × List Bool)) (ev_pair (ev_var 2) (ev_var (x := [true, false, false, false]) 3)) h2
end
noncomputable def One (s : Nat) (p : Pic) (r q : Nat) : Prop := Pk p r q ∧ ∀ y ∈ p, ∀ k ∈ y, k = s
theorem One.eq {s : Nat} {p p' : Pic} {r q : Nat} (h : One s p r q) (h' : One s p' r q) : p = p' := by
  have e : ∀ {p : Pic}, One s p r q → p = List.replicate r (List.replicate q s) := fun {p} h => List.eq_replicate_iff.mpr ⟨h.1.len, fun y hy => List.eq_replicate_iff.mpr ⟨h.1.row y hy, fun k hk => h.2 y hy k hk⟩⟩
  rw [e h, e h']
theorem One.turn3 {s : Nat} {p : Pic} {r q : Nat} (h : One s p r q) : One s (turned p 3) q r := ⟨h.1.turned 3, sg_turned (Φ := fun k => k = s) h.1 h.2 3⟩
theorem One.turn1 {s : Nat} {p : Pic} {r q : Nat} (h : One s p r q) : One s (turned p 1) q r := ⟨h.1.turned 1, sg_turned (Φ := fun k => k = s) h.1 h.2 1⟩
structure Lin (rs : List RuleD) (N : Nat → Tx) (e s : Nat) : Prop where
  all : ∀ q ∈ rs, (∃ i k, i < 5 ∧ q = .turn (N i) k (N (i + 1)) 0) ∨ (∃ k, q = .turn (N 5) k (N 0) 1) ∨ (∃ k, q = .above (N 5) k (N 6) (N 7)) ∨ (∃ i k, (i = 5 ∨ i = 6) ∧ q = .cell (N i) k [s]) ∨ (∃ k, q = .turn (N 7) k (N e) 1)
  inj : ∀ i j, i ≤ 7 → j ≤ 7 → N i = N j → i = j
  e5 : e ≤ 5
  turn : ∀ i < 5, ∃ k, RuleD.turn (N i) k (N (i + 1)) 0 ∈ rs
  back : ∃ k, RuleD.turn (N 5) k (N 0) 1 ∈ rs
  over : ∃ k, RuleD.above (N 5) k (N 6) (N 7) ∈ rs
  cell5 : ∃ k, RuleD.cell (N 5) k [s] ∈ rs
  cell6 : ∃ k, RuleD.cell (N 6) k [s] ∈ rs
  last : ∃ k, RuleD.turn (N 7) k (N e) 1 ∈ rs
theorem turn_cost {M : Tab} {k v : Int} {x : Pic × Tx} (h : costAcc M k [x] = some v) (hk : 1 ≤ k) : ∃ w, look M (shw x.1, x.2) = some w ∧ w < v := by
  obtain ⟨w, hw⟩ := costAcc_parts_some h x (List.mem_singleton.mpr rfl)
  simp only [costAcc, hw] at h
  exact ⟨w, hw, by have := Option.some.inj h; omega⟩
theorem Lin.inv {rs : List RuleD} {N : Nat → Tx} {e s : Nat} {names : List Tx} {S : List Pic} {M : Tab} (h : Lin rs N e s) (hF : FtPre rs names S M) {p : Pic} {r q : Nat} (hp : One s p r q) {i : Nat} (hi : i ≤ 7) {v k : Int} {use : Use} (hfu : firstUse M rs p (N i) v = some (k, use)) :
    (i < 5 ∧ use = [(p, N (i + 1))] ∧ ∃ w, look M (shw p, N (i + 1)) = some w ∧ w < v) ∨
    (i = 5 ∧ use = [(turned p 3, N 0)] ∧ ∃ w, look M (shw (turned p 3), N 0) = some w ∧ w < v) ∨
    (i = 5 ∧ ∃ n, 0 < n ∧ n < r ∧ use = [(partA false p n, N 6), (partB false p n, N 7)] ∧ (∃ w, look M (shw (partA false p n), N 6) = some w) ∧ ∃ w, look M (shw (partB false p n), N 7) = some w) ∨
    ((i = 5 ∨ i = 6) ∧ r = 1 ∧ q = 1 ∧ use = []) ∨
    (i = 7 ∧ use = [(turned p 3, N e)] ∧ ∃ w, look M (shw (turned p 3), N e) = some w) := by
  obtain ⟨hk, hu, hc⟩ := firstUse_some hfu
  obtain ⟨j, rfl, hri, hrn, hrm⟩ := numbers_at hk
  have hl := hp.1.len
  have hcost := hF.cost _ hrm
  generalize ruleF rs (j : Int) = ru at hu hrn hrm hc hcost
  have he5 := h.e5
  rcases h.all ru hrm with ⟨i', k, hi', rfl⟩ | ⟨k, rfl⟩ | ⟨k, rfl⟩ | ⟨i', k, hi', rfl⟩ | ⟨k, rfl⟩
  · have hii : i' = i := h.inj i' i (by omega) hi hrn
    subst hii
    have hu := List.mem_singleton.mp (show use ∈ [[(p, N (i' + 1))]] from hu)
    subst hu
    exact .inl ⟨hi', rfl, turn_cost (x := (p, N (i' + 1))) hc hcost⟩
  · have hii : 5 = i := h.inj 5 i (by omega) hi hrn
    subst hii
    have hu := List.mem_singleton.mp (show use ∈ [[(turned p 3, N 0)]] from hu)
    subst hu
    exact .inr (.inl ⟨rfl, rfl, turn_cost (x := (turned p 3, N 0)) hc hcost⟩)
  · have hii : 5 = i := h.inj 5 i (by omega) hi hrn
    subst hii
    have hu : use ∈ pairs false p (N 6) (N 7) p.length := hu
    obtain ⟨n, hn, eu⟩ := List.mem_map.mp hu
    have hn := List.mem_range.mp hn
    rw [hl] at hn
    have hparts : ∀ x ∈ use, ∃ w, look M (shw x.1, x.2) = some w := costAcc_parts_some hc
    subst eu
    exact .inr (.inr (.inl ⟨rfl, n + 1, by omega, by omega, rfl, hparts _ (List.mem_cons_self ..), hparts _ (List.mem_cons_of_mem _ (List.mem_singleton.mpr rfl))⟩))
  · have hii : i' = i := h.inj i' i (by omega) hi hrn
    subst hii
    have hu : use ∈ (if p = [[s]] then [[]] else ([] : List Use)) := hu
    split at hu
    · rename_i hps
      have hu := List.mem_singleton.mp hu
      subst hu hps
      obtain ⟨rfl, rfl⟩ := pk_one hp.1
      exact .inr (.inr (.inr (.inl ⟨hi', rfl, rfl, rfl⟩)))
    · exact (List.not_mem_nil hu).elim
  · have hii : 7 = i := h.inj 7 i (by omega) hi hrn
    subst hii
    have hu := List.mem_singleton.mp (show use ∈ [[(turned p 3, N e)]] from hu)
    subst hu
    obtain ⟨w, hw, _⟩ := turn_cost (x := (turned p 3, N e)) hc hcost
    exact .inr (.inr (.inr (.inr ⟨rfl, rfl, w, hw⟩)))
theorem Lin.chain {rs : List RuleD} {N : Nat → Tx} {e s : Nat} {names : List Tx} {S : List Pic} {M : Tab} (h : Lin rs N e s) (hF : FtPre rs names S M) {p : Pic} {r q : Nat} (hp : One s p r q) (hS : p ∈ S) : ∀ (d i : Nat) (v : Int), i + d = 5 → look M (shw p, N i) = some v → ∃ w, look M (shw p, N 5) = some w ∧ w ≤ v := by
  intro d
  induction d with
  | zero => intro i v hi hv; cases (show i = 5 by omega); exact ⟨v, hv, Int.le_refl _⟩
  | succ d ih =>
    intro i v hi hv
    obtain ⟨k, use, hfu, _⟩ := hF.first hS hv
    rcases h.inv hF hp (by omega) hfu with ⟨_, _, w, hw, hlt⟩ | ⟨z, _⟩ | ⟨z, _⟩ | ⟨z, _⟩ | ⟨z, _⟩
    · obtain ⟨w', hw', hle⟩ := ih (i + 1) w (by omega) hw
      exact ⟨w', hw', by omega⟩
    all_goals omega
theorem Lin.row {rs : List RuleD} {N : Nat → Tx} {e s : Nat} {names : List Tx} {S : List Pic} {M : Tab} (h : Lin rs N e s) (hF : FtPre rs names S M) {p : Pic} {q : Nat} (hp : One s p 1 q) (hS : p ∈ S) (h2 : 2 ≤ q) {v : Int} (hv : look M (shw p, N 5) = some v) : ∃ w, look M (shw (turned p 3), N 5) = some w ∧ w < v := by
  obtain ⟨k, use, hfu, _⟩ := hF.first hS hv
  rcases h.inv hF hp (by omega) hfu with ⟨z, _⟩ | ⟨_, _, w, hw, hlt⟩ | ⟨_, n, z1, z2, _⟩ | ⟨_, _, z, _⟩ | ⟨z, _⟩
  · omega
  · obtain ⟨w', hw', hle⟩ := h.chain hF hp.turn3 (hF.trn p hS 3) 5 0 w rfl hw
    exact ⟨w', hw', by omega⟩
  all_goals omega
theorem Lin.col {rs : List RuleD} {N : Nat → Tx} {e s : Nat} {names : List Tx} {S : List Pic} {M : Tab} (h : Lin rs N e s) (hF : FtPre rs names S M) {p : Pic} {r : Nat} (hp : One s p r 1) (hS : p ∈ S) {v w : Int} (hv : look M (shw p, N 5) = some v) (hw : look M (shw (turned p 3), N 0) = some w) : v ≤ w := by
  have hr0 := hp.1.r0
  have hT := hF.trn p hS 3
  obtain ⟨w', hw', hle⟩ := h.chain hF hp.turn3 hT 5 0 w rfl hw
  by_cases h1 : r = 1
  · subst h1
    rw [← hp.eq hp.turn3, hv] at hw'
    cases hw'
    exact hle
  · obtain ⟨w2, hw2, hlt⟩ := h.row hF hp.turn3 hT (by omega) hw'
    rw [← hp.eq hp.turn3.turn3, hv] at hw2
    cases hw2
    omega
noncomputable def colD (e : Nat) : Nat → Nat
  | 0 => 0
  | 1 => 1
  | 2 => 8 - e
  | c + 3 => colD e (c + 2) + (13 - e)
noncomputable def lineD (e i r q : Nat) : Nat := if i = 6 then 1 else if i = 7 then (if r = 1 then 7 - e else colD e r + 12 - e) else if q = 1 then colD e r + (5 - i) else colD e q + (11 - i)
theorem colD_eq {e : Nat} (c : Nat) (h : e ≤ 5) : colD e (c + 2) = c * (13 - e) + (8 - e) := by
  induction c with
  | zero => show 8 - e = _; omega
  | succ c ih =>
    show colD e (c + 2) + (13 - e) = _
    rw [ih, Nat.add_mul]
    omega
theorem Lin.tree {rs : List RuleD} {N : Nat → Tx} {e s : Nat} {names : List Tx} {S : List Pic} {M : Tab} (h : Lin rs N e s) (hF : FtPre rs names S M) : ∀ (m : Nat) (p : Pic) (r q i : Nat) (v : Int), lineD e i r q = m → i ≤ 7 → One s p r q → (r = 1 ∨ q = 1) → (i = 7 → q = 1) → p ∈ S → look M (shw p, N i) = some v →
    ∃ t : Tr, t.dep = m ∧ t.size ≤ 2 * m ∧ ∀ f, ftree rs M f p (N i) = if m ≤ f then some t else none := by
  intro m
  induction m using Nat.strongRecOn with
  | _ m ih =>
  intro p r q i v hm hi hp hline h7 hS hv
  have he := h.e5
  have hr0 := hp.1.r0
  have hc0 := hp.1.c0
  obtain ⟨k, use, hfu, _⟩ := hF.first hS hv
  have leaf : use = [] → m = 1 → ∃ t : Tr, t.dep = m ∧ t.size ≤ 2 * m ∧ ∀ f, ftree rs M f p (N i) = if m ≤ f then some t else none := fun hu h1 => by
    subst hu h1
    refine ⟨.node k [], by rw [Tr.dep, Tr.deps], by rw [Tr.size, Tr.sizes]; decide, fun f => ?_⟩
    cases f with
    | zero => rw [if_neg (by decide)]; rfl
    | succ f =>
      rw [if_pos (by omega)]
      exact ftree_make hv hfu fun x hx => (List.not_mem_nil hx).elim
  have one : ∀ {x : Pic × Tx} {t : Tr} {m' : Nat}, use = [x] → m = m' + 1 → t.dep = m' → t.size ≤ 2 * m' → (∀ f, ftree rs M f x.1 x.2 = if m' ≤ f then some t else none) → ∃ t : Tr, t.dep = m ∧ t.size ≤ 2 * m ∧ ∀ f, ftree rs M f p (N i) = if m ≤ f then some t else none := fun {x t m'} hu h1 hd hz hf => by
    subst hu h1
    refine ⟨.node k [t], by rw [Tr.dep, Tr.deps, Tr.deps, hd]; omega, by rw [Tr.size, Tr.sizes, Tr.sizes]; omega, fun f => ?_⟩
    cases f with
    | zero => rw [if_neg (by omega)]; rfl
    | succ f =>
      have hff := hf f
      by_cases z : m' ≤ f
      · rw [if_pos z] at hff
        rw [if_pos (by omega), ftree_make hv hfu fun y hy => ⟨t, by rw [List.mem_singleton.mp hy]; exact hff⟩]
        show some (Tr.node k [(ftree rs M f x.1 x.2).getD (.node 0 [])]) = _
        rw [hff]; rfl
      · rw [if_neg z] at hff
        rw [if_neg (by omega)]
        exact ftree_none hv hfu (List.mem_singleton.mpr rfl) hff
  rcases h.inv hF hp hi hfu with ⟨h5, hu, w, hw, _⟩ | ⟨rfl, hu, w, hw, hlt⟩ | ⟨rfl, n, hn0, hn1, hu, ⟨w1, hw1⟩, w2, hw2⟩ | ⟨h56, rfl, rfl, hu⟩ | ⟨rfl, hu, w, hw⟩
  · have hm' : m = lineD e (i + 1) r q + 1 := by
      rw [← hm]
      unfold lineD
      repeat' split
      all_goals omega
    obtain ⟨t, h1, h2, h3⟩ := ih (lineD e (i + 1) r q) (by omega) p r q (i + 1) w rfl (by omega) hp hline (fun z => by omega) hS hw
    exact one hu hm' h1 h2 h3
  · by_cases hq : q = 1
    · subst hq
      have := h.col hF hp hS hv hw
      omega
    · have hr : r = 1 := by omega
      subst hr
      have hm' : m = lineD e 0 q 1 + 1 := by
        rw [← hm]
        unfold lineD
        repeat' split
        all_goals omega
      obtain ⟨t, h1, h2, h3⟩ := ih (lineD e 0 q 1) (by omega) (turned p 3) q 1 0 w rfl (by omega) hp.turn3 (.inr rfl) (fun z => by omega) (hF.trn p hS 3) hw
      exact one hu hm' h1 h2 h3
  · have hq : q = 1 := by omega
    subst hq
    obtain ⟨p1, p2⟩ := pk_side hp.1 false (n := n) hn0 hn1
    have p1 : Pk (partA false p n) n 1 := p1
    have p2 : Pk (partB false p n) (r - n) 1 := p2
    have o1 : One s (partA false p n) n 1 := ⟨p1, sg_partA (Φ := fun k => k = s) hp.2 false n⟩
    have o2 : One s (partB false p n) (r - n) 1 := ⟨p2, sg_partB (Φ := fun k => k = s) hp.2 false n⟩
    obtain ⟨_, huse, _⟩ := firstUse_some hfu
    have hclo := hF.clo p hS _ use huse
    have s1 : partA false p n ∈ S := hclo (partA false p n, N 6) (by rw [hu]; exact List.mem_cons_self ..)
    have s2 : partB false p n ∈ S := hclo (partB false p n, N 7) (by rw [hu]; exact List.mem_cons_of_mem _ (List.mem_singleton.mpr rfl))
    have hn : n = 1 := by
      obtain ⟨k', use', hfu', _⟩ := hF.first s1 hw1
      rcases h.inv hF o1 (i := 6) (by omega) hfu' with ⟨z, _⟩ | ⟨z, _⟩ | ⟨z, _⟩ | ⟨_, z, _⟩ | ⟨z, _⟩ <;> omega
    subst hn
    have hm' : m = lineD e 7 (r - 1) 1 + 1 := by
      rw [← hm]
      obtain ⟨c, rfl⟩ : ∃ c, r = c + 2 := ⟨r - 2, by omega⟩
      cases c with
      | zero =>
        show 8 - e + 0 = 7 - e + 1
        omega
      | succ c =>
        show colD e (c + 2) + (13 - e) + 0 = (if c + 2 = 1 then 7 - e else colD e (c + 2) + 12 - e) + 1
        rw [if_neg (by omega)]
        omega
    have hpos : 1 ≤ lineD e 7 (r - 1) 1 := by
      show 1 ≤ if r - 1 = 1 then 7 - e else colD e (r - 1) + 12 - e
      split <;> omega
    obtain ⟨t1, a1, a2, a3⟩ := ih 1 (by omega) (partA false p 1) 1 1 6 w1 rfl (by omega) o1 (.inl rfl) (fun z => by omega) s1 hw1
    obtain ⟨t2, b1, b2, b3⟩ := ih (lineD e 7 (r - 1) 1) (by omega) (partB false p 1) (r - 1) 1 7 w2 rfl (by omega) o2 (.inr rfl) (fun _ => rfl) s2 hw2
    have z1 : t1.size = 1 := by
      have h1 := a3 1
      rw [if_pos (Nat.le_refl _)] at h1
      obtain ⟨_, k', use', _, hfu', rfl, _⟩ := ftree_step (f := 0) h1
      rcases h.inv hF o1 (i := 6) (by omega) hfu' with ⟨z, _⟩ | ⟨z, _⟩ | ⟨z, _⟩ | ⟨_, _, _, rfl⟩ | ⟨z, _⟩
      · omega
      · omega
      · omega
      · show (Tr.node k' []).size = 1
        rw [Tr.size, Tr.sizes]
      · omega
    subst hu
    refine ⟨.node k [t1, t2], by rw [Tr.dep, Tr.deps, Tr.deps, Tr.deps, a1, b1]; omega, by rw [Tr.size, Tr.sizes, Tr.sizes, Tr.sizes]; omega, fun f => ?_⟩
    cases f with
    | zero => rw [if_neg (by omega)]; rfl
    | succ f =>
      have g1 := a3 f
      have g2 := b3 f
      by_cases z : lineD e 7 (r - 1) 1 ≤ f
      · rw [if_pos z] at g2
        rw [if_pos (by omega)] at g1
        rw [if_pos (by omega), ftree_make hv hfu fun y hy => by
          rcases List.mem_cons.mp hy with rfl | hy
          · exact ⟨t1, g1⟩
          · rw [List.mem_singleton.mp hy]; exact ⟨t2, g2⟩]
        show some (Tr.node k [(ftree rs M f (partA false p 1) (N 6)).getD (.node 0 []), (ftree rs M f (partB false p 1) (N 7)).getD (.node 0 [])]) = _
        rw [g1, g2]; rfl
      · rw [if_neg z] at g2
        rw [if_neg (by omega)]
        exact ftree_none hv hfu (List.mem_cons_of_mem _ (List.mem_singleton.mpr rfl)) g2
  · exact leaf hu (by rw [← hm]; rcases h56 with rfl | rfl <;> rfl)
  · have hq : q = 1 := h7 rfl
    subst hq
    have hm' : m = lineD e e 1 r + 1 := by
      rw [← hm]
      have hl : lineD e e 1 r = if r = 1 then colD e 1 + (5 - e) else colD e r + (11 - e) := by
        unfold lineD
        rw [if_neg (show ¬ e = 6 by omega), if_neg (show ¬ e = 7 by omega)]
      show (if r = 1 then 7 - e else colD e r + 12 - e) = lineD e e 1 r + 1
      rw [hl]
      by_cases h1 : r = 1
      · rw [if_pos h1, if_pos h1]
        show 7 - e = 1 + (5 - e) + 1
        omega
      · rw [if_neg h1, if_neg h1]
        omega
    obtain ⟨t, h1, h2, h3⟩ := ih (lineD e e 1 r) (by omega) (turned p 3) 1 r e w rfl (by omega) hp.turn3 (.inl rfl) (fun z => by omega) (hF.trn p hS 3) hw
    exact one hu hm' h1 h2 h3
theorem one_cell {s : Nat} {p : Pic} (h : One s p 1 1) : p = [[s]] := h.eq ⟨⟨rfl, fun y hy => by rw [List.mem_singleton.mp hy]; rfl, by decide, by decide, by decide, by decide⟩, fun y hy k hk => by rw [List.mem_singleton.mp hy] at hk; exact List.mem_singleton.mp hk⟩
theorem Lin.derC {rs : List RuleD} {N : Nat → Tx} {e s : Nat} (h : Lin rs N e s) {p : Pic} {r q : Nat} (hp : Pk p r q) (hd : ∃ v, Der rs p (N 5) v) : ∀ (d i : Nat), i + d = 5 → ∃ v, Der rs p (N i) v := by
  intro d
  induction d with
  | zero => intro i hi; cases (show i = 5 by omega); exact hd
  | succ d ih =>
    intro i hi
    obtain ⟨w, hw⟩ := ih (i + 1) (by omega)
    obtain ⟨k, hk⟩ := h.turn i (by omega)
    exact ⟨_, Der.turn hk hp (by decide) (by decide) hw⟩
theorem Lin.derR {rs : List RuleD} {N : Nat → Tx} {e s : Nat} (h : Lin rs N e s) {c : Nat} (hd : ∀ p, One s p c 1 → ∃ v, Der rs p (N 5) v) {x : Pic} (hx : One s x 1 c) : ∃ v, Der rs x (N 5) v := by
  obtain ⟨w, hw⟩ := h.derC hx.turn3.1 (hd _ hx.turn3) 5 0 rfl
  obtain ⟨k, hk⟩ := h.back
  have := Der.turn hk hx.turn3.1 (by decide) (by decide) hw
  have e1 : turned (turned x 3) (1 : Int).toNat = x := (hx.turn3.turn1).eq hx
  rw [e1] at this
  exact ⟨_, this⟩
theorem Lin.der5 {rs : List RuleD} {N : Nat → Tx} {e s : Nat} (h : Lin rs N e s) : ∀ (c : Nat) (p : Pic), One s p c 1 → ∃ v, Der rs p (N 5) v := by
  intro c
  induction c with
  | zero => intro p hp; exact absurd hp.1.r0 (by omega)
  | succ c ih =>
    intro p hp
    by_cases h0 : c = 0
    · subst h0
      rw [one_cell hp]
      obtain ⟨k, hk⟩ := h.cell5
      exact ⟨_, Der.cell hk⟩
    · obtain ⟨p1, p2⟩ := pk_side hp.1 false (n := 1) (by decide) (show 1 < c + 1 by omega)
      have p1 : Pk (partA false p 1) 1 1 := p1
      have p2 : Pk (partB false p 1) (c + 1 - 1) 1 := p2
      have o1 : One s (partA false p 1) 1 1 := ⟨p1, sg_partA (Φ := fun k => k = s) hp.2 false 1⟩
      have o2 : One s (partB false p 1) c 1 := ⟨p2, sg_partB (Φ := fun k => k = s) hp.2 false 1⟩
      obtain ⟨k6, hk6⟩ := h.cell6
      have d1 : Der rs (partA false p 1) (N 6) k6 := by rw [one_cell o1]; exact Der.cell hk6
      obtain ⟨w, hw⟩ := h.derC o2.turn3.1 (h.derR ih o2.turn3) (5 - e) e (by have := h.e5; omega)
      obtain ⟨k7, hk7⟩ := h.last
      have d2 := Der.turn hk7 o2.turn3.1 (by decide) (by decide) hw
      have e1 : turned (turned (partB false p 1) 3) (1 : Int).toNat = partB false p 1 := (o2.turn3.turn1).eq o2
      rw [e1] at d2
      obtain ⟨k, hk⟩ := h.over
      have := Der.over hk p1 p2 d1 d2
      rw [put_parts hp.1] at this
      exact ⟨_, this⟩
theorem Lin.der {rs : List RuleD} {N : Nat → Tx} {e s : Nat} (h : Lin rs N e s) {p : Pic} {r q i : Nat} (hp : One s p r q) (hline : r = 1 ∨ q = 1) (hi : i ≤ 5) : ∃ v, Der rs p (N i) v := by
  refine h.derC hp.1 ?_ (5 - i) i (by omega)
  rcases hline with rfl | rfl
  · exact h.derR (h.der5 q) hp
  · exact h.der5 r p hp
theorem Lin.told {rs : List RuleD} {N : Nat → Tx} {e s : Nat} {names : List Tx} {p : Pic} {r q i : Nat} {M : Tab} (h : Lin rs N e s) (hF : FtPre rs names (seenL p r q) M) (hp : One s p r q) (hline : r = 1 ∨ q = 1) (hi : i ≤ 5) :
    (∃ v, look M (shw p, N i) = some v) ∧ ∃ t : Tr, t.dep = lineD e i r q ∧ t.size ≤ 2 * lineD e i r q ∧ ∀ f, ftree rs M f p (N i) = if lineD e i r q ≤ f then some t else none := by
  have hS : p ∈ seenL p r q := seenL_mem.mpr (seen_self hp.1)
  obtain ⟨k, hd⟩ := h.der hp hline hi
  obtain ⟨v, hv, _⟩ := der_le hp.1 hF.least hd (seen_self hp.1)
  exact ⟨⟨v, hv⟩, h.tree hF _ p r q i v rfl (by omega) hp hline (fun z => by omega) hS hv⟩
structure FamOk (x : Tx) (L : List Tx) (st : Tx) (rows : List RowW) (p : Pic) (r c : Nat) : Prop where
  sg : signsOk x = true
  nm : ∀ n ∈ L, isName n = true
  n8 : L.length ≤ 8
  st : st ∈ L
  len : rows.length ≤ 24
  row : ∀ q ∈ rows, q.r.good = true ∧ q.r.of x ∧ ∀ n ∈ q.r.name :: q.r.parts, n ∈ L
  pk : Pk p r c
  px : ∀ y ∈ p, ∀ k ∈ y, k ∈ x
theorem FamOk.small {x : Tx} {L : List Tx} {st : Tx} {rows : List RowW} {p : Pic} {r c : Nat} (h : FamOk x L st rows p r c) : ∀ k ∈ x, k ∈ smallTx := by
  have hx := h.sg
  unfold signsOk at hx
  simp only [Bool.and_eq_true, decide_eq_true_eq, List.all_eq_true] at hx
  exact hx.2.2
theorem FamOk.why {x : Tx} {L : List Tx} {st : Tx} {rows : List RowW} {p : Pic} {r c : Nat} (h : FamOk x L st rows p r c) : whyG x st (rows.map RowW.r) = none := why_drawn (names := L) h.sg (h.nm _ h.st) h.st h.n8 (by rw [List.length_map]; exact h.len) fun q hq => by
  obtain ⟨z, hz, rfl⟩ := List.mem_map.mp hq
  exact ⟨(h.row z hz).2.1, (h.row z hz).2.2⟩
theorem FamOk.slash {x : Tx} {L : List Tx} {st : Tx} {rows : List RowW} {p : Pic} {r c : Nat} (h : FamOk x L st rows p r c) : NoSlash p := fun y hy k hk => by
  have h1 := h.small k (h.px y hy k hk)
  intro e
  rw [e] at h1
  exact absurd h1 (by decide)
theorem FamOk.nms {x : Tx} {L : List Tx} {st : Tx} {rows : List RowW} {p : Pic} {r c : Nat} (_ : FamOk x L st rows p r c) : ∀ q ∈ (mkG x st (rows.map RowW.r)).rules, q.name ∈ (mkG x st (rows.map RowW.r)).names ∧ ∀ m ∈ q.parts, m ∈ (mkG x st (rows.map RowW.r)).names := fun q hq => by
  have hgn : (mkG x st (rows.map RowW.r)).names = metL st (rows.map RowW.r) := rfl
  have hq : q ∈ rows.map RowW.r := hq
  rw [hgn]
  exact ⟨metAll_mem.mpr (.inr ⟨q, hq, List.mem_cons_self ..⟩), fun m hm => metAll_mem.mpr (.inr ⟨q, hq, List.mem_cons_of_mem _ hm⟩)⟩
theorem FamOk.tbl {x : Tx} {L : List Tx} {st : Tx} {rows : List RowW} {p : Pic} {r c : Nat} (h : FamOk x L st rows p r c) : TblPre (mkG x st (rows.map RowW.r)) p r c := by
  refine ⟨fun q hq => ?_, ?_, fun y hy k hk => ?_, h.pk, ?_⟩
  · have hq : q ∈ rows.map RowW.r := hq
    obtain ⟨z, hz, rfl⟩ := List.mem_map.mp hq
    exact (h.row z hz).1
  · show (rows.map RowW.r).length ≤ 24
    rw [List.length_map]
    exact h.len
  · have := small_lt k (h.small k (h.px y hy k hk)); omega
  · show st ∈ metL st (rows.map RowW.r)
    exact metAll_mem.mpr (.inl (List.mem_singleton.mpr rfl))
theorem FamOk.ft {x : Tx} {L : List Tx} {st : Tx} {rows : List RowW} {p : Pic} {r c : Nat} (h : FamOk x L st rows p r c) {M : Tab} (hM : TableOf (rows.map RowW.r) p r c M) : FtPre (rows.map RowW.r) (mkG x st (rows.map RowW.r)).names (seenL p r c) M := ftPre_of (g := mkG x st (rows.map RowW.r)) h.tbl h.slash h.nms hM
theorem FamOk.line {s : Nat} {L : List Tx} {N : Nat → Tx} {e i : Nat} {rows : List RowW} {p : Pic} {r c : Nat} (h : FamOk [s] L (N i) rows p r c) (hl : Lin (rows.map RowW.r) N e s) (hp : One s p r c) (hline : r = 1 ∨ c = 1) (hi : i ≤ 5) {M : Tab} (hM : TableOf (rows.map RowW.r) p r c M) :
    (∃ v, look M (shw p, N i) = some v) ∧ (∀ t, ftree (rows.map RowW.r) M 60 p (N i) = some t → t.size ≤ 200 ∧ t.dep = lineD e i r c) ∧ (lineD e i r c ≤ 60 → ∃ t, ftree (rows.map RowW.r) M 60 p (N i) = some t) ∧ (60 < lineD e i r c → ftree (rows.map RowW.r) M 60 p (N i) = none) := by
  obtain ⟨h1, t, h2, h3, h4⟩ := hl.told (h.ft hM) hp hline hi
  have h60 := h4 60
  refine ⟨h1, fun t' ht => ?_, fun z => ⟨t, by rw [h60, if_pos z]⟩, fun z => by rw [h60, if_neg (by omega)]⟩
  rw [h60] at ht
  split at ht
  · rename_i z
    cases ht
    exact ⟨by omega, h2⟩
  · cases ht
theorem FamOk.chn {x y : Tx} {L : List Tx} {N : Nat → Tx} {m : Nat} {τ : Nat → Nat} {rows : List RowW} {p : Pic} {r c : Nat} (h : FamOk x L (N 0) rows p r c) (hc : Chn (rows.map RowW.r) N m y τ) (hpx : ∀ z ∈ p, ∀ k ∈ z, k ∈ y) (hm : m ≤ 7) {M : Tab} (hM : TableOf (rows.map RowW.r) p r c M) :
    (∃ v, look M (shw p, N 0) = some v) ∧ ∃ t, ftree (rows.map RowW.r) M 60 p (N 0) = some t ∧ t.size + 1 = r * c + sumTau τ p := by
  have hF := h.ft hM
  have hS : p ∈ seenL p r c := seenL_mem.mpr (seen_self h.pk)
  obtain ⟨k, hd⟩ := hc.der _ p r c h.pk (Nat.le_refl _) hpx
  obtain ⟨v, hv, _⟩ := der_le h.pk hF.least hd (seen_self h.pk)
  have h36 : r * c ≤ 6 * 6 := Nat.mul_le_mul h.pk.r6 h.pk.c6
  obtain ⟨t, ht⟩ := hc.ex hF 60 p r c 0 hS h.pk (Nat.zero_le _) (fun _ => by omega) (fun z => absurd z (Nat.lt_irrefl 0)) v hv 60 (Nat.le_refl _)
  exact ⟨⟨v, hv⟩, t, ht, (hc.size 60 p r c 0 t h.pk (Nat.zero_le _) ht).1 rfl⟩
local macro_rules | `(tactic| walk_at "le") => `(tactic| repeat (first | exact le_nil | refine le_cons ?_ | refine le_no ?_))
noncomputable def names27 : List Tx := [[83, 65], [83, 66], [83, 67], [83, 68], [83, 69], [83, 70], [83, 71], [83, 72]]
noncomputable def nm27 (i : Nat) : Tx := names27.getD i []
theorem nm27_at : ∀ i < 8, names27[i]? = some (nm27 i) := by decide +kernel
theorem nm27_inj : ∀ i < 8, ∀ j < 8, nm27 i = nm27 j → i = j := by decide +kernel
theorem nm27_name : ∀ n ∈ names27, isName n = true := by decide +kernel
theorem nm27_mem {i : Nat} (h : i < 8) : nm27 i ∈ names27 := List.mem_of_getElem? (nm27_at i h)
noncomputable def turn27 (N : Nat → Tx) (co : Nat → Int) (k : Nat) : RowW := ⟨.turn (N k) (co k) (N (k + 1)) 0⟩
noncomputable def line27 (co : Nat → Int) (e s : Nat) : List RowW := (List.range 5).map (turn27 nm27 co) ++ [⟨.turn (nm27 5) (co 5) (nm27 0) 1⟩, ⟨.above (nm27 5) (co 6) (nm27 6) (nm27 7)⟩, ⟨.cell (nm27 5) (co 7) [s]⟩, ⟨.cell (nm27 6) (co 8) [s]⟩, ⟨.turn (nm27 7) (co 9) (nm27 e) 1⟩]
theorem line27_mem {co : Nat → Int} {e s : Nat} {q : RuleD} : q ∈ (line27 co e s).map RowW.r ↔ (∃ i < 5, q = .turn (nm27 i) (co i) (nm27 (i + 1)) 0) ∨ q = .turn (nm27 5) (co 5) (nm27 0) 1 ∨ q = .above (nm27 5) (co 6) (nm27 6) (nm27 7) ∨ q = .cell (nm27 5) (co 7) [s] ∨ q = .cell (nm27 6) (co 8) [s] ∨ q = .turn (nm27 7) (co 9) (nm27 e) 1 := by
  unfold line27
  rw [List.map_append, List.mem_append, List.map_map]
  refine or_congr ⟨fun h => ?_, fun h => ?_⟩ ?_
  · obtain ⟨i, hi, rfl⟩ := List.mem_map.mp h
    exact ⟨i, List.mem_range.mp hi, rfl⟩
  · obtain ⟨i, hi, rfl⟩ := h
    exact List.mem_map.mpr ⟨i, List.mem_range.mpr hi, rfl⟩
  · simp only [List.map_cons, List.map_nil, List.mem_cons, List.not_mem_nil, or_false]
theorem line27_lin {co : Nat → Int} {e s : Nat} (he : e ≤ 5) : Lin ((line27 co e s).map RowW.r) nm27 e s := by
  refine ⟨fun q hq => ?_, fun i j hi hj h => nm27_inj i (by omega) j (by omega) h, he, fun i hi => ⟨_, line27_mem.mpr (.inl ⟨i, hi, rfl⟩)⟩, ⟨_, line27_mem.mpr (.inr (.inl rfl))⟩, ⟨_, line27_mem.mpr (.inr (.inr (.inl rfl)))⟩, ⟨_, line27_mem.mpr (.inr (.inr (.inr (.inl rfl))))⟩, ⟨_, line27_mem.mpr (.inr (.inr (.inr (.inr (.inl rfl)))))⟩, ⟨_, line27_mem.mpr (.inr (.inr (.inr (.inr (.inr rfl)))))⟩⟩
  rcases line27_mem.mp hq with ⟨i, hi, rfl⟩ | rfl | rfl | rfl | rfl | rfl
  · exact .inl ⟨i, _, hi, rfl⟩
  · exact .inr (.inl ⟨_, rfl⟩)
  · exact .inr (.inr (.inl ⟨_, rfl⟩))
  · exact .inr (.inr (.inr (.inl ⟨5, _, .inl rfl, rfl⟩)))
  · exact .inr (.inr (.inr (.inl ⟨6, _, .inr rfl, rfl⟩)))
  · exact .inr (.inr (.inr (.inr ⟨_, rfl⟩)))
theorem cost_ok27 {k : Int} (h1 : 1 ≤ k) (h2 : k ≤ 9) : costOk k = true := by unfold costOk; rw [decide_eq_true h1, decide_eq_true h2]; rfl
theorem sign_ok27 {s : Nat} (h : s ∈ smallTx) : signOk [s] = true := by
  show (decide (([s] : Tx).length = 1) && ([s] : Tx).all (fun c => decide (c ∈ smallTx))) = true
  rw [List.all_cons, List.all_nil, decide_eq_true h]; rfl
theorem turn_good {n m : Tx} {k t : Int} (hn : isName n = true) (hm : isName m = true) (h1 : 1 ≤ k) (h2 : k ≤ 9) (ht : 0 ≤ t ∧ t ≤ 7) : (RuleD.turn n k m t).good = true := by
  simp only [RuleD.good, hn, hm, cost_ok27 h1 h2, Bool.and_true, Bool.true_and, Bool.and_eq_true, decide_eq_true_eq]
  first | exact ht | exact ⟨ht.1, ht.2⟩ | omega
theorem line27_ok {co : Nat → Int} {e s d : Nat} {p : Pic} {r c : Nat} (he : e ≤ 5) (hd : d ≤ 5) (hs : s ∈ smallTx) (hco : ∀ i, 1 ≤ co i ∧ co i ≤ 9) (hp : One s p r c) : FamOk [s] names27 (nm27 d) (line27 co e s) p r c := by
  have nn : ∀ i, i < 8 → isName (nm27 i) = true := fun i hi => nm27_name _ (nm27_mem hi)
  have hsg : signsOk [s] = true := by
    unfold signsOk
    simp only [Bool.and_eq_true, decide_eq_true_eq, List.all_eq_true]
    exact ⟨⟨by simp, by simp⟩, by simp, fun k hk => by rw [List.mem_singleton.mp hk]; exact hs⟩
  refine ⟨hsg, nm27_name, by decide, nm27_mem (by omega), by unfold line27; simp, fun q hq => ?_, hp.1, fun y hy k hk => by rw [hp.2 y hy k hk]; exact List.mem_singleton.mpr rfl⟩
  have hq' : q.r ∈ (line27 co e s).map RowW.r := List.mem_map.mpr ⟨q, hq, rfl⟩
  generalize q.r = u at hq'
  rcases line27_mem.mp hq' with ⟨i, hi, rfl⟩ | rfl | rfl | rfl | rfl | rfl
  · refine ⟨turn_good (nn _ (by omega)) (nn _ (by omega)) (hco _).1 (hco _).2 (by decide), trivial, fun n hn => ?_⟩
    simp only [RuleD.name, RuleD.parts, List.mem_cons, List.not_mem_nil, or_false] at hn
    rcases hn with rfl | rfl
    · exact nm27_mem (by omega)
    · exact nm27_mem (by omega)
  · refine ⟨turn_good (nn _ (by omega)) (nn _ (by omega)) (hco _).1 (hco _).2 (by decide), trivial, fun n hn => ?_⟩
    simp only [RuleD.name, RuleD.parts, List.mem_cons, List.not_mem_nil, or_false] at hn
    rcases hn with rfl | rfl
    · exact nm27_mem (by omega)
    · exact nm27_mem (by omega)
  · refine ⟨?_, trivial, fun n hn => ?_⟩
    · show ((costOk (co 6) && isName (nm27 5)) && (isName (nm27 6) && isName (nm27 7))) = true
      rw [cost_ok27 (hco _).1 (hco _).2, nn 5 (by omega), nn 6 (by omega), nn 7 (by omega)]; rfl
    · simp only [RuleD.name, RuleD.parts, List.mem_cons, List.not_mem_nil, or_false] at hn
      rcases hn with rfl | rfl | rfl
      · exact nm27_mem (by omega)
      · exact nm27_mem (by omega)
      · exact nm27_mem (by omega)
  · refine ⟨?_, ⟨s, List.mem_singleton.mpr rfl, rfl⟩, fun n hn => ?_⟩
    · show (signOk [s] && (costOk (co 7) && isName (nm27 5))) = true
      rw [sign_ok27 hs, cost_ok27 (hco _).1 (hco _).2, nn 5 (by omega)]; rfl
    · simp only [RuleD.name, RuleD.parts, List.mem_cons, List.not_mem_nil, or_false] at hn
      rw [hn]; exact nm27_mem (by omega)
  · refine ⟨?_, ⟨s, List.mem_singleton.mpr rfl, rfl⟩, fun n hn => ?_⟩
    · show (signOk [s] && (costOk (co 8) && isName (nm27 6))) = true
      rw [sign_ok27 hs, cost_ok27 (hco _).1 (hco _).2, nn 6 (by omega)]; rfl
    · simp only [RuleD.name, RuleD.parts, List.mem_cons, List.not_mem_nil, or_false] at hn
      rw [hn]; exact nm27_mem (by omega)
  · refine ⟨turn_good (nn _ (by omega)) (nn _ (by omega)) (hco _).1 (hco _).2 (by decide), trivial, fun n hn => ?_⟩
    simp only [RuleD.name, RuleD.parts, List.mem_cons, List.not_mem_nil, or_false] at hn
    rcases hn with rfl | rfl
    · exact nm27_mem (by omega)
    · exact nm27_mem (by omega)
local macro_rules | `(tactic| walk_at "le") => `(tactic| repeat (first | exact le_nil | refine le_cons ?_ | refine le_no ?_))
noncomputable instance nonTr : NonN Tr := ⟨fun {K F v x} h z => by
  cases x with
  | node n ts =>
    have h : rpD F (Tr.d (.node n ts)) v := h
    rw [Tr.d, rpD] at h
    obtain ⟨a, vs, e, _⟩ := h
    rw [e] at z
    cases z⟩
noncomputable def lineLS : Tw.Spec := fun A P _ => ∃ (s : Scr) (k : Nat), A = [vl s, vl ([k] : Tx)] ∧ s.l.length ≤ 63 ∧ k ∈ smallTx ∧ P (rv true)
theorem flat_one {k c : Nat} : (List.replicate k ([c] : Tx)).flatten = List.replicate k c := flat_rep
theorem one_rows {k r q : Nat} (hr : 1 ≤ r) (hr6 : r ≤ 6) (hq : 1 ≤ q) (hq6 : q ≤ 6) : One k (List.replicate r (List.replicate q k)) r q := by
  refine ⟨⟨List.length_replicate .., fun y hy => ?_, hr, hq, hr6, hq6⟩, fun y hy z hz => ?_⟩
  · rw [(List.mem_replicate.mp hy).2, List.length_replicate]
  · rw [(List.mem_replicate.mp hy).2] at hz
    exact (List.mem_replicate.mp hz).2
section
variable {P : Program} {w : World} {K : PySem.W.Frag} {mg : Str → Option Value} {base : Heap}
theorem ok_law_line (T : Txt K mg) : Has P w K mg base 70 "_law_line" ["_law_script", "_law_sign"] lineLS := by
  refine Has.of (k := 69) T.f_law_line sc_law_line (fun A Q R ⟨s, k, e, _⟩ => by rw [e]; rfl) fun f cdv A outer s0 H E hr Γ Q R ⟨s, k, e, hs, hk, hq⟩ => ?_
  subst e
  refine st_setLc 2 (α := Tx) (β := Tx) (own := [("_law_letter", 15)]) (f := fun l => ([83] : Tx) ++ l) (src_str (x := [65, 66, 67, 68, 69, 70, 71, 72]) (ev_str "ABCDEFGH")) (tg_name 15) (fun _ _ _ _ _ => pgn 15 sc_law_line.nd) (fun l hl _ _ _ _ _ => by
      obtain ⟨z, _, rfl⟩ := List.mem_map.mp hl
      exact ev_bin (o_addS (sl_small (by simp))) (ev_str "S") (ev_var 15)) sc_law_line.nd (sl_small (by simp)) (fun a1 => st_freeze 2 (x := names27) (frozL (i := repTx)) ?_) (ok := bk_law_line (by decide +kernel))
  obtain ⟨co, hco⟩ : ∃ co : Nat → Int, co = fun j : Nat => 1 + lawCell s.l (3 + (j : Int)) % 9 := ⟨_, rfl⟩
  have hcb : ∀ i, 1 ≤ co i ∧ co i ≤ 9 := fun i => by
    rw [hco]
    have b1 := Int.emod_nonneg (lawCell s.l (3 + (i : Int))) (by decide : (9 : Int) ≠ 0)
    have b2 := Int.emod_lt_of_pos (lawCell s.l (3 + (i : Int))) (by decide : (0 : Int) < 9)
    exact ⟨by show 1 ≤ 1 + _; omega, by show 1 + _ ≤ 9; omega⟩
  refine st_setLc 3 (α := Int) (β := Int) (own := [("_law_k", 9)]) (f := fun k => 1 + lawCell s.l (3 + k) % 9) (src_range (n := 10) T.b_range ev_int (by decide) (by decide)) (tg_name 9) (fun _ _ _ _ _ => pgn 9 sc_law_line.nd) (fun k hk _ _ _ _ _ => by
      obtain ⟨i, hi⟩ := List.getElem?_of_mem hk
      obtain ⟨h1, rfl⟩ := rng_get0 hi
      exact ev_bin o_add ev_int (ev_bin (o_mod (by decide)) (ev_call (x := lawCell s.l (3 + (i : Int))) (ok_law_cell T) (hr.mono (by decide)) (ea_cons (ev_var 0) (ea_cons (x := 3 + (i : Int)) (ev_bin o_add ev_int (ev_var 9)) ea_nil)) fun P R h => ⟨s, _, rfl, hs, by omega, h⟩) ev_int)) sc_law_line.nd (by rw [rng_len]; exact sl_small (by decide)) (fun a2 => st_freeze 3 (frozL (i := repInt)) ?_) (ok := bk_law_line (by decide +kernel))
  obtain ⟨cs, hcs⟩ : ∃ cs, cs = (rng 0 (10 : Int).toNat).map fun k => 1 + lawCell s.l (3 + k) % 9 := ⟨_, rfl⟩
  rw [← hcs]
  have hat : ∀ j : Nat, j < 10 → atI cs (j : Int) = some (co j) := fun j hj => atI_nat (by
    rw [hcs, hco, List.getElem?_map]
    unfold rng
    rw [List.getElem?_map, List.getElem?_range (by omega : j < (10 : Int).toNat)]
    show some (1 + lawCell s.l (3 + (0 + (j : Int))) % 9) = _
    rw [Int.zero_add])
  have hnat : ∀ j : Nat, j < 8 → atI names27 (j : Int) = some (nm27 j) := fun j hj => atI_nat (nm27_at j hj)
  obtain ⟨c, hc⟩ : ∃ c, c = lawCell s.l 1 := ⟨_, rfl⟩
  refine st_set 4 (x := c) (ev_eq (ev_call (x := lawCell s.l 1) (ok_law_cell T) (hr.mono (by decide)) (ea_cons (ev_var 0) (ea_cons (x := (1 : Int)) ev_int ea_nil)) fun P R h => ⟨s, 1, rfl, hs, by decide, h⟩) hc.symm) ?_ sc_law_line.nd
  have go : ∀ a b d : Nat, 1 ≤ a → a ≤ 6 → 1 ≤ b → b ≤ 6 → d ≤ 5 → Tw.ST (cxOf (L2.CX P w) P w K mg base N_law_line "_law_line" (defScope s_law_line) f cdv A outer s0 H E).nox ((defBody s_law_line).drop 7) [vl s, vl ([k] : Tx), vl names27, vl cs, vl c, vl (a : Int), vl (b : Int), vl (d : Int), .no, .no, .no, .no, .no, .no, .no, .no] (fin Q) := fun a b d ha1 ha6 hb1 hb6 hd => by
    refine st_setN 8 (en_nil RowW) (fun ar => ?_) sc_law_line.nd
    refine st_for (xs := rng 0 (5 : Int).toNat) (fun j Γ => Le Γ [vl s, vl ([k] : Tx), vl names27, vl cs, vl c, vl (a : Int), vl (b : Int), vl (d : Int), .lst repRowW ar ((List.range j).map (turn27 nm27 co)), .no, .no, .no, .no, .no, .no, .no]) (src_range (n := 5) T.b_range ev_int (by decide) (by decide)) (tg_name 9) (by walk_at "le") (fun j e Γ1 hj hP => ?_) (fun Γ1 hP => ?_) (pgn 9 sc_law_line.nd)
    · obtain ⟨h1, rfl⟩ := rng_get0 hj
      have h1 : j < 5 := h1
      refine st_le (Le.set hP 9 _) ?_
      refine st_append 8 (ad := ar) (xs := (List.range j).map (turn27 nm27 co)) (x := turn27 nm27 co j) (ev_rowW (r := turn27 nm27 co j) ev_int (ev_ixL (xs := names27) (ev_var 2) (ev_var 9) (hnat j (by omega))) (ev_ixL (xs := cs) (ev_var 3) (ev_var 9) (hat j (by omega))) (ev_ixL (xs := names27) (ev_var 2) (ev_bin o_add (ev_var 9) ev_int) (hnat (j + 1) (by omega))) (ev_d (α := Int) ev_int) rfl) (st_nil ?_) (lt_mid (by rw [List.length_map, List.length_range]; omega))
      show Le _ _
      rw [List.range_succ, List.map_append]
      exact le_cons (le_cons (le_cons (le_cons (le_cons (le_cons (le_cons (le_cons (le_cons (le_no (le_no (le_no (le_no (le_no (le_no (le_no le_nil)))))))))))))))
    · have hP : Le Γ1 [vl s, vl ([k] : Tx), vl names27, vl cs, vl c, vl (a : Int), vl (b : Int), vl (d : Int), .lst repRowW ar ((List.range 5).map (turn27 nm27 co)), .no, .no, .no, .no, .no, .no, .no] := hP
      refine st_le hP ?_
      refine st_append 8 (ad := ar) (xs := (List.range 5).map (turn27 nm27 co)) (x := (⟨.turn (nm27 5) (co 5) (nm27 0) 1⟩ : RowW)) (ev_rowW (r := ⟨.turn (nm27 5) (co 5) (nm27 0) 1⟩) ev_int (ev_ixL (xs := names27) (ev_var 2) ev_int (hnat 5 (by omega))) (ev_ixL (xs := cs) (ev_var 3) ev_int (hat 5 (by omega))) (ev_ixL (xs := names27) (ev_var 2) ev_int (hnat 0 (by omega))) (ev_d (α := Int) ev_int) rfl) ?_ (lt_mid (by simp))
      refine st_append 8 (ad := ar) (xs := (List.range 5).map (turn27 nm27 co) ++ [(⟨.turn (nm27 5) (co 5) (nm27 0) 1⟩ : RowW)]) (x := (⟨.above (nm27 5) (co 6) (nm27 6) (nm27 7)⟩ : RowW)) (ev_rowW (r := ⟨.above (nm27 5) (co 6) (nm27 6) (nm27 7)⟩) ev_int (ev_ixL (xs := names27) (ev_var 2) ev_int (hnat 5 (by omega))) (ev_ixL (xs := cs) (ev_var 3) ev_int (hat 6 (by omega))) (ev_ixL (xs := names27) (ev_var 2) ev_int (hnat 6 (by omega))) (ev_d (α := Tx) (ev_ixL (xs := names27) (ev_var 2) ev_int (hnat 7 (by omega)))) rfl) ?_ (lt_mid (by simp))
      refine st_append 8 (ad := ar) (xs := (List.range 5).map (turn27 nm27 co) ++ [(⟨.turn (nm27 5) (co 5) (nm27 0) 1⟩ : RowW)] ++ [(⟨.above (nm27 5) (co 6) (nm27 6) (nm27 7)⟩ : RowW)]) (x := (⟨.cell (nm27 5) (co 7) [k]⟩ : RowW)) (ev_rowW (r := ⟨.cell (nm27 5) (co 7) [k]⟩) ev_int (ev_ixL (xs := names27) (ev_var 2) ev_int (hnat 5 (by omega))) (ev_ixL (xs := cs) (ev_var 3) ev_int (hat 7 (by omega))) (ev_var (x := ([k] : Tx)) 1) (ev_d (α := Tx) (ev_str "")) rfl) ?_ (lt_mid (by simp))
      refine st_append 8 (ad := ar) (xs := (List.range 5).map (turn27 nm27 co) ++ [(⟨.turn (nm27 5) (co 5) (nm27 0) 1⟩ : RowW)] ++ [(⟨.above (nm27 5) (co 6) (nm27 6) (nm27 7)⟩ : RowW)] ++ [(⟨.cell (nm27 5) (co 7) [k]⟩ : RowW)]) (x := (⟨.cell (nm27 6) (co 8) [k]⟩ : RowW)) (ev_rowW (r := ⟨.cell (nm27 6) (co 8) [k]⟩) ev_int (ev_ixL (xs := names27) (ev_var 2) ev_int (hnat 6 (by omega))) (ev_ixL (xs := cs) (ev_var 3) ev_int (hat 8 (by omega))) (ev_var (x := ([k] : Tx)) 1) (ev_d (α := Tx) (ev_str "")) rfl) ?_ (lt_mid (by simp))
      obtain ⟨e, he⟩ : ∃ e : Nat, 6 - (b : Int) = (e : Int) := ⟨6 - b, by omega⟩
      refine st_append 8 (ad := ar) (xs := (List.range 5).map (turn27 nm27 co) ++ [(⟨.turn (nm27 5) (co 5) (nm27 0) 1⟩ : RowW)] ++ [(⟨.above (nm27 5) (co 6) (nm27 6) (nm27 7)⟩ : RowW)] ++ [(⟨.cell (nm27 5) (co 7) [k]⟩ : RowW)] ++ [(⟨.cell (nm27 6) (co 8) [k]⟩ : RowW)]) (x := (⟨.turn (nm27 7) (co 9) (nm27 e) 1⟩ : RowW)) (ev_rowW (r := ⟨.turn (nm27 7) (co 9) (nm27 e) 1⟩) ev_int (ev_ixL (xs := names27) (ev_var 2) ev_int (hnat 7 (by omega))) (ev_ixL (xs := cs) (ev_var 3) ev_int (hat 9 (by omega))) (ev_ixL (xs := names27) (ev_var 2) (ev_eq (ev_bin o_sub ev_int (ev_var 6)) he) (hnat e (by omega))) (ev_d (α := Int) ev_int) rfl) ?_ (lt_mid (by simp))
      refine st_freeze 8 (x := line27 co e k) (frozL (i := repRowW)) ?_
      have go2 : ∀ (p : Pic) (r q : Nat), One k p r q → (r = 1 ∨ q = 1) → Tw.ST (cxOf (L2.CX P w) P w K mg base N_law_line "_law_line" (defScope s_law_line) f cdv A outer s0 H E).nox ((defBody s_law_line).drop 18) [vl s, vl ([k] : Tx), vl names27, vl cs, vl c, vl (a : Int), vl (b : Int), vl (d : Int), vl (line27 co e k), .no, vl p, vl (lineD e d r q : Int), .no, .no, .no, .no] (fin Q) := fun p r q hp hline => by
        have hF := line27_ok (co := co) (e := e) (d := d) (by omega) hd hk hcb hp
        have hL := line27_lin (co := co) (e := e) (s := k) (by omega)
        obtain ⟨g, hg⟩ : ∃ g, g = mkG [k] (nm27 d) ((line27 co e k).map RowW.r) := ⟨_, rfl⟩
        refine st_set 12 (x := g) (ev_call (ok_law_grammar T) (hr.mono (by decide)) (ea_cons (x := onesT [k]) (ev_of_en (en_lst (es_cons (x := ([k] : Tx)) (ev_var 1) es_nil))) (ea_cons (x := nm27 d) (ev_ixL (xs := names27) (ev_var 2) (ev_var 7) (hnat d (by omega))) (ea_cons (x := line27 co e k) (ev_var 8) ea_nil))) fun P R h => ⟨[k], nm27 d, line27 co e k, rfl, by simp, by have := isName_len (hF.nm _ hF.st); omega, hF.len, fun q hq => (hF.row q hq).1, hF.why, by rw [← hg]; exact h⟩) ?_ sc_law_line.nd
        have hone : ∀ M, TableOf g.rules p r q M → (∃ v, look M (shw p, g.start) = some v) ∧ (∀ t, ftree g.rules M 60 p g.start = some t → t.size ≤ 200 ∧ t.dep = lineD e d r q) ∧ (lineD e d r q ≤ 60 → ∃ t, ftree g.rules M 60 p g.start = some t) ∧ (60 < lineD e d r q → ftree g.rules M 60 p g.start = none) := fun M hM => by
          rw [hg] at hM ⊢
          exact hF.line hL hp hline hd hM
        have hT : TblPre g p r q := by rw [hg]; exact hF.tbl
        have hgn : ∀ q ∈ g.rules, q.name ∈ g.names ∧ ∀ m ∈ q.parts, m ∈ g.names := by rw [hg]; exact hF.nms
        have h9 : ∀ M, TableOf g.rules p r q M → (∃ v, look M (shw p, g.start) = some v) ∧ ∀ t, ftree g.rules M 60 p g.start = some t → t.size ≤ 900 := fun M hM => ⟨(hone M hM).1, fun t ht => by have := ((hone M hM).2.1 t ht).1; omega⟩
        by_cases hdue : lineD e d r q ≤ 60
        · refine st_asgEx (G := fun z : Option Tr × List Bool => ∃ t : Tr, t.size ≤ 200 ∧ t.dep = lineD e d r q ∧ z = (some t, [])) (bind := fun z Γ => (Γ.set 13 (.val repOpt z.1)).set 14 (.val repList z.2)) (ex_call (ok_law_asked T) (hr.mono (by decide)) (ea_cons (x := g) (ev_var 12) (ea_cons (x := p) (ev_var 10) ea_nil)) fun P' R' h => ⟨g, p, r, q, rfl, hT, hF.slash, hgn, h9, .inl ⟨fun M hM => by
            obtain ⟨_, k2, k3, _⟩ := hone M hM
            obtain ⟨t, ht⟩ := k3 hdue
            exact ⟨t, ht, (k2 t ht).1⟩, fun M t hM ht => by
            obtain ⟨_, k2, _, _⟩ := hone M hM
            exact h _ ⟨_, ⟨t, (k2 t ht).1, (k2 t ht).2, rfl⟩, rfl⟩⟩⟩) (tg_pair 13 14 (by decide)) (fun z hz => ?_) (pg2 13 14 (pgn 13 sc_law_line.nd) (pgn 14 sc_law_line.nd))
          obtain ⟨t, hz1, hz2, rfl⟩ := hz
          refine st_if (k := false) (et_eq (et_cmp o_gt (ev_var (x := (lineD e d r q : Int)) 11) ev_int) (decide_eq_false (by omega))) (fun h => nomatch h) (fun _ => st_nil ?_)
          have ft : ∀ {e0 : Expr}, True := trivial
          exact st_retV (x := true) (ev_eq (y := true) (ev_and (ev_cmp (o_eqD (α := List Bool) (x := []) (y := []) hr (fun _ _ => trivial) (fun _ _ => trivial)) (ev_var (x := ([] : List Bool)) 14) (ev_of_en (en_nil Bool))) fun _ => ev_and2 (ev_isi (α := Tup Dy) (x := Tup.mk (Dy.i t.num :: t.subs.map Tr.d)) "tuple" true T.b_isinstance T.b_tuple (ev_tupTr (t := t) (ev_un (ev_var (x := (some t : Option Tr)) 13)))) fun _ => ev_cmp o_eq (ev_call (x := (t.dep : Int)) (ok_law_deep T 60) (hr.mono (by decide)) (ea_cons (x := t) (ev_un (ev_var (x := (some t : Option Tr)) 13)) ea_nil) fun P R h => ⟨t, rfl, by omega, by omega, h⟩) (ev_var (x := (lineD e d r q : Int)) 11)) (by rw [hz2]; simp)) hq
        · refine st_asgEx (G := fun z : Option Tr × List Bool => z = (none, [true, false, false, false])) (bind := fun z Γ => (Γ.set 13 (.val repOpt z.1)).set 14 (.val repList z.2)) (ex_call (ok_law_asked T) (hr.mono (by decide)) (ea_cons (x := g) (ev_var 12) (ea_cons (x := p) (ev_var 10) ea_nil)) fun P' R' h => ⟨g, p, r, q, rfl, hT, hF.slash, hgn, h9, .inr ⟨(fun M t hM ht => by
            obtain ⟨_, _, _, k4⟩ := hone M hM
            rw [k4 (by omega)] at ht
            cases ht), h _ ⟨_, rfl, rfl⟩⟩⟩) (tg_pair 13 14 (by decide)) (fun z hz => ?_) (pg2 13 14 (pgn 13 sc_law_line.nd) (pgn 14 sc_law_line.nd))
          subst hz
          refine st_if (k := true) (et_eq (et_cmp o_gt (ev_var (x := (lineD e d r q : Int)) 11) ev_int) (decide_eq_true (by omega))) (fun _ => ?_) (fun h => nomatch h)
          exact st_retV (x := true) (ev_eq (y := true) (ev_and2 (ev_cmp (o_isO (α := Tr) (x := none)) (ev_var (x := (none : Option Tr)) 13) ev_non) fun _ => ev_cmp (o_eqD (α := List Bool) (x := [true, false, false, false]) (y := [true, false, false, false]) hr (fun _ _ => trivial) (fun _ _ => trivial)) (ev_var (x := [true, false, false, false]) 14) (ev_of_en (en_lst (es_cons ev_bl (es_cons ev_bl (es_cons ev_bl (es_cons ev_bl es_nil))))))) (by simp)) hq
      have go3 : ∀ (p : Pic) (r q : Nat) (due : Int), One k p r q → (r = 1 ∧ q = a ∨ r = a ∧ q = 1) → (a ≠ 1 → due = (lineD e d r q : Int)) → Tw.ST (cxOf (L2.CX P w) P w K mg base N_law_line "_law_line" (defScope s_law_line) f cdv A outer s0 H E).nox ((defBody s_law_line).drop 17) [vl s, vl ([k] : Tx), vl names27, vl cs, vl c, vl (a : Int), vl (b : Int), vl (d : Int), vl (line27 co e k), .no, vl p, vl due, .no, .no, .no, .no] (fin Q) := fun p r q due hp hrq hdue => by
        have hline : r = 1 ∨ q = 1 := by omega
        by_cases h1 : a = 1
        · have hr1 : r = 1 := by omega
          have hq1 : q = 1 := by omega
          have hdd : (6 : Int) - (d : Int) = (lineD e d r q : Int) := by
            subst hr1 hq1
            unfold lineD
            rw [if_neg (by omega), if_neg (by omega), if_pos rfl]
            show _ = ((1 + (5 - d) : Nat) : Int)
            omega
          refine st_if (k := true) (et_eq (et_cmp o_eq (ev_var (x := (a : Int)) 5) ev_int) (decide_eq_true (by omega))) (fun _ => ?_) (fun h => nomatch h)
          exact st_set 11 (x := (lineD e d r q : Int)) (ev_eq (ev_bin o_sub ev_int (ev_var 7)) hdd) (st_nil (go2 p r q hp hline)) sc_law_line.nd
        · refine st_if (k := false) (et_eq (et_cmp o_eq (ev_var (x := (a : Int)) 5) ev_int) (decide_eq_false (by omega))) (fun h => nomatch h) (fun _ => st_nil ?_)
          rw [hdue h1]
          exact go2 p r q hp hline
      have ho1 : One k [List.replicate a k] 1 a := one_rows (r := 1) (by omega) (by omega) ha1 ha6
      have ho2 : One k (List.replicate a [k]) a 1 := one_rows (q := 1) ha1 ha6 (by omega) (by omega)
      have hD : a ≠ 1 → (13 - (d : Int) + ((a : Int) - 2) * ((b : Int) + 7) + (b : Int) = (lineD e d 1 a : Int)) ∧ (13 - (d : Int) + ((a : Int) - 2) * ((b : Int) + 7) + (b : Int) - 6 = (lineD e d a 1 : Int)) := fun h1 => by
        have l1 : lineD e d 1 a = colD e a + (11 - d) := by
          unfold lineD
          rw [if_neg (by omega), if_neg (by omega), if_neg h1]
        have l2 : lineD e d a 1 = colD e a + (5 - d) := by
          unfold lineD
          rw [if_neg (by omega), if_neg (by omega), if_pos rfl]
        rw [l1, l2]
        obtain ⟨m, rfl⟩ : ∃ m, a = m + 2 := ⟨a - 2, by omega⟩
        rw [colD_eq m (by omega)]
        rcases (by omega : m = 0 ∨ m = 1 ∨ m = 2 ∨ m = 3 ∨ m = 4) with rfl | rfl | rfl | rfl | rfl <;> constructor <;> omega
      obtain ⟨due, hdu⟩ : ∃ due, due = 13 - (d : Int) + ((a : Int) - 2) * ((b : Int) + 7) + (b : Int) := ⟨_, rfl⟩
      rw [← hdu] at hD
      refine st_setN 10 (xs := [List.replicate a k]) (en_lst (es_cons (x := (List.replicate a k : Tx)) (ev_eq (ev_bin (o_mulT (x := ([k] : Tx)) (n := (a : Int)) (by simp) (by omega) (by omega)) (ev_var 1) (ev_var 5)) (by rw [flat_one, Int.toNat_natCast])) es_nil)) (fun a5 => st_freeze 10 (frozL (i := repTx)) ?_) sc_law_line.nd
      refine st_set 11 (x := due) (ev_eq (ev_bin o_add (ev_bin o_add (ev_bin o_sub ev_int (ev_var 7)) (ev_bin (o_mul (x := (a : Int) - 2) (y := (b : Int) + 7) (.inl ⟨by omega, by omega⟩)) (ev_bin o_sub (ev_var 5) ev_int) (ev_bin o_add (ev_var 6) ev_int))) (ev_var 6)) hdu.symm) ?_ sc_law_line.nd
      refine st_if (et_cmp o_eq (ev_bin (o_mod (by decide)) (ev_bin (o_div divK) (ev_var 4) ev_int) ev_int) ev_int) (fun _ => ?_) (fun _ => st_nil (go3 _ 1 a due ho1 (.inl ⟨rfl, rfl⟩) fun h => (hD h).1))
      refine st_setN 10 (xs := List.replicate a [k]) (en_eq (en_rep (xs := [([k] : Tx)]) (n := (a : Int)) (en_lst (es_cons (x := ([k] : Tx)) (ev_var 1) es_nil)) (ev_var 5) (by omega) (by omega) (sl_small (by simp; omega))) (by
        rw [Int.toNat_natCast]
        clear ho1 ho2 hD go2 go3
        induction a with
        | zero => rfl
        | succ a _ => simp [List.replicate_succ])) (fun a6 => st_freeze 10 (frozL (i := repTx)) ?_) sc_law_line.nd
      exact st_set 11 (x := due - 6) (ev_bin o_sub (ev_var 11) ev_int) (st_nil (go3 _ a 1 (due - 6) ho2 (.inr ⟨rfl, rfl⟩) fun h => (hD h).2)) sc_law_line.nd
  have b1 := Int.emod_nonneg c (by decide : (6 : Int) ≠ 0)
  have b2 := Int.emod_lt_of_pos c (by decide : (0 : Int) < 6)
  have b3 := Int.emod_nonneg (c / 6) (by decide : (6 : Int) ≠ 0)
  have b4 := Int.emod_lt_of_pos (c / 6) (by decide : (0 : Int) < 6)
  have b5 := Int.emod_nonneg (c / 36) (by decide : (6 : Int) ≠ 0)
  have b6 := Int.emod_lt_of_pos (c / 36) (by decide : (0 : Int) < 6)
  obtain ⟨a, ha⟩ : ∃ a : Nat, 1 + c % 6 = (a : Int) := ⟨(1 + c % 6).toNat, by omega⟩
  obtain ⟨b, hb⟩ : ∃ a : Nat, 1 + c / 6 % 6 = (a : Int) := ⟨(1 + c / 6 % 6).toNat, by omega⟩
  obtain ⟨d, hd⟩ : ∃ a : Nat, c / 36 % 6 = (a : Int) := ⟨(c / 36 % 6).toNat, by omega⟩
  refine st_set 5 (x := (a : Int)) (ev_eq (ev_bin o_add ev_int (ev_bin (o_mod (by decide)) (ev_var 4) ev_int)) ha) ?_ sc_law_line.nd
  refine st_set 6 (x := (b : Int)) (ev_eq (ev_bin o_add ev_int (ev_bin (o_mod (by decide)) (ev_bin (o_div divK) (ev_var 4) ev_int) ev_int)) hb) ?_ sc_law_line.nd
  refine st_set 7 (x := (d : Int)) (ev_eq (ev_bin (o_mod (by decide)) (ev_bin (o_div divK) (ev_var 4) ev_int) ev_int) hd) ?_ sc_law_line.nd
  refine st_if (et_cmp o_eq (ev_bin (o_mod (by decide)) (ev_bin (o_div divK) (ev_var 4) ev_int) ev_int) ev_int) (fun _ => ?_) (fun _ => st_nil (go a b d (by omega) (by omega) (by omega) (by omega) (by omega)))
  have b7 := Int.emod_nonneg c (by decide : (2 : Int) ≠ 0)
  have b8 := Int.emod_lt_of_pos c (by decide : (0 : Int) < 2)
  obtain ⟨d2, hd2⟩ : ∃ a : Nat, c % 2 = (a : Int) := ⟨(c % 2).toNat, by omega⟩
  refine st_set 5 (x := ((6 : Nat) : Int)) ev_int ?_ sc_law_line.nd
  refine st_set 6 (x := ((4 : Nat) : Int)) ev_int ?_ sc_law_line.nd
  exact st_set 7 (x := (d2 : Int)) (ev_eq (ev_bin (o_mod (by decide)) (ev_var 4) ev_int) hd2) (st_nil (go 6 4 d2 (by omega) (by omega) (by omega) (by omega) (by omega))) sc_law_line.nd
end
noncomputable def names8 : List Tx := [[90, 90, 90, 90], [83, 65], [83, 66], [83, 67], [83, 68], [83, 69], [83, 70], [83, 71]]
noncomputable def nm8 (i : Nat) : Tx := names8.getD i []
theorem nm8_at : ∀ i < 8, names8[i]? = some (nm8 i) := by decide +kernel
theorem nm8_at7 : ∀ i < 7, (names8.take 7)[i]? = some (nm8 i) := by decide +kernel
theorem nm8_inj : ∀ i < 8, ∀ j < 8, nm8 i = nm8 j → i = j := by decide +kernel
theorem nm8_name : ∀ n ∈ names8, isName n = true := by decide +kernel
theorem nm8_mem {i : Nat} (h : i < 8) : nm8 i ∈ names8 := List.mem_of_getElem? (nm8_at i h)
noncomputable def turn8 (co : Nat → Int) (k : Nat) : RowW := ⟨.turn (nm8 k) (co (2 + k)) (nm8 (k + 1)) 0⟩
noncomputable def rowsC (co : Nat → Int) (m : Nat) (cells : List RowW) : List RowW := [⟨.beside (nm8 0) (co 0) (nm8 0) (nm8 0)⟩, ⟨.above (nm8 0) (co 1) (nm8 0) (nm8 0)⟩] ++ (List.range m).map (turn8 co) ++ cells
theorem rowsC_mem {co : Nat → Int} {m : Nat} {cells : List RowW} {q : RowW} : q ∈ rowsC co m cells ↔ q = ⟨.beside (nm8 0) (co 0) (nm8 0) (nm8 0)⟩ ∨ q = ⟨.above (nm8 0) (co 1) (nm8 0) (nm8 0)⟩ ∨ (∃ k < m, q = turn8 co k) ∨ q ∈ cells := by
  unfold rowsC
  rw [List.mem_append, List.mem_append, List.mem_cons, List.mem_singleton, or_assoc, or_assoc]
  refine or_congr_right (or_congr_right (or_congr_left ⟨fun h => ?_, fun h => ?_⟩))
  · obtain ⟨i, hi, rfl⟩ := List.mem_map.mp h
    exact ⟨i, List.mem_range.mp hi, rfl⟩
  · obtain ⟨i, hi, rfl⟩ := h
    exact List.mem_map.mpr ⟨i, List.mem_range.mpr hi, rfl⟩
structure Cells (co : Nat → Int) (m : Nat) (y : Tx) (τ : Nat → Nat) (cells : List RowW) : Prop where
  m7 : m ≤ 7
  co : ∀ i, 1 ≤ co i ∧ co i ≤ 9
  all : ∀ q ∈ cells, ∃ s k, s ∈ y ∧ 1 ≤ k ∧ k ≤ 9 ∧ q = (⟨.cell (nm8 (τ s)) k [s]⟩ : RowW)
  ex : ∀ s ∈ y, ∃ k, (⟨.cell (nm8 (τ s)) k [s]⟩ : RowW) ∈ cells
  le : ∀ s ∈ y, τ s ≤ m
theorem Cells.chn {co : Nat → Int} {m : Nat} {y : Tx} {τ : Nat → Nat} {cells rows : List RowW} (h : Cells co m y τ cells) (hr : ∀ q, q ∈ rows ↔ q ∈ rowsC co m cells) : Chn (rows.map RowW.r) nm8 m y τ := by
  have hm := h.m7
  have put : ∀ q : RowW, q ∈ rowsC co m cells → q.r ∈ rows.map RowW.r := fun q hq => List.mem_map.mpr ⟨q, (hr q).mpr hq, rfl⟩
  refine ⟨fun q hq => ?_, fun i j hi hj e => nm8_inj i (by omega) j (by omega) e, h.le, ⟨_, put _ (rowsC_mem.mpr (.inl rfl))⟩, ⟨_, put _ (rowsC_mem.mpr (.inr (.inl rfl)))⟩, fun i hi => ⟨_, put _ (rowsC_mem.mpr (.inr (.inr (.inl ⟨i, hi, rfl⟩))))⟩, fun s hs => ?_⟩
  · obtain ⟨z, hz, rfl⟩ := List.mem_map.mp hq
    rcases rowsC_mem.mp ((hr z).mp hz) with rfl | rfl | ⟨k, hk, rfl⟩ | hc
    · exact .inl ⟨_, rfl⟩
    · exact .inr (.inl ⟨_, rfl⟩)
    · exact .inr (.inr (.inl ⟨k, _, hk, rfl⟩))
    · obtain ⟨s, k, hs, _, _, rfl⟩ := h.all z hc
      exact .inr (.inr (.inr ⟨s, k, hs, rfl⟩))
  · obtain ⟨k, hk⟩ := h.ex s hs
    exact ⟨k, put _ (rowsC_mem.mpr (.inr (.inr (.inr hk))))⟩
theorem Cells.ok {co : Nat → Int} {m : Nat} {y : Tx} {τ : Nat → Nat} {cells rows : List RowW} (h : Cells co m y τ cells) (hr : ∀ q, q ∈ rows ↔ q ∈ rowsC co m cells) (hl : rows.length ≤ 24) (hy : signsOk y = true) {p : Pic} {r c : Nat} (hp : Pk p r c) (hpx : ∀ z ∈ p, ∀ k ∈ z, k ∈ y) : FamOk y names8 (nm8 0) rows p r c := by
  have hm := h.m7
  have nn : ∀ i, i < 8 → isName (nm8 i) = true := fun i hi => nm8_name _ (nm8_mem hi)
  have hsm : ∀ k ∈ y, k ∈ smallTx := by
    have hx := hy
    unfold signsOk at hx
    simp only [Bool.and_eq_true, decide_eq_true_eq, List.all_eq_true] at hx
    exact hx.2.2
  refine ⟨hy, nm8_name, by decide, nm8_mem (by decide), hl, fun q hq => ?_, hp, hpx⟩
  rcases rowsC_mem.mp ((hr q).mp hq) with rfl | rfl | ⟨k, hk, rfl⟩ | hc
  · refine ⟨?_, trivial, fun n hn => ?_⟩
    · show ((costOk (co 0) && isName (nm8 0)) && (isName (nm8 0) && isName (nm8 0))) = true
      rw [cost_ok27 (h.co _).1 (h.co _).2, nn 0 (by omega)]; rfl
    · simp only [RuleD.name, RuleD.parts, List.mem_cons, List.not_mem_nil, or_false, or_self] at hn
      rw [hn]; exact nm8_mem (by decide)
  · refine ⟨?_, trivial, fun n hn => ?_⟩
    · show ((costOk (co 1) && isName (nm8 0)) && (isName (nm8 0) && isName (nm8 0))) = true
      rw [cost_ok27 (h.co _).1 (h.co _).2, nn 0 (by omega)]; rfl
    · simp only [RuleD.name, RuleD.parts, List.mem_cons, List.not_mem_nil, or_false, or_self] at hn
      rw [hn]; exact nm8_mem (by decide)
  · refine ⟨turn_good (nn _ (by omega)) (nn _ (by omega)) (h.co _).1 (h.co _).2 (by decide), trivial, fun n hn => ?_⟩
    simp only [turn8, RuleD.name, RuleD.parts, List.mem_cons, List.not_mem_nil, or_false] at hn
    rcases hn with rfl | rfl
    · exact nm8_mem (by omega)
    · exact nm8_mem (by omega)
  · obtain ⟨s, k, hs, h1, h2, rfl⟩ := h.all q hc
    have := h.le s hs
    refine ⟨?_, ⟨s, hs, rfl⟩, fun n hn => ?_⟩
    · show (signOk [s] && (costOk k && isName (nm8 (τ s)))) = true
      rw [sign_ok27 (hsm s hs), cost_ok27 h1 h2, nn _ (by omega)]; rfl
    · simp only [RuleD.name, RuleD.parts, List.mem_cons, List.not_mem_nil, or_false] at hn
      rw [hn]; exact nm8_mem (by omega)
theorem sumTau_one {τ : Nat → Nat} {s d : Nat} (ht : τ s = d) : ∀ (p : Pic) (r c : Nat), p = List.replicate r (List.replicate c s) → sumTau τ p = r * c * (d + 1) := fun p r c e => by
  subst e
  have row : ∀ c : Nat, ((List.replicate c s).map fun s => τ s + 1).sum = c * (d + 1) := fun c => by
    rw [List.map_replicate, ht]
    induction c with
    | zero => simp
    | succ c ih => rw [List.replicate_succ, List.sum_cons, ih, Nat.add_mul]; omega
  unfold sumTau
  induction r with
  | zero => simp
  | succ r ih =>
    rw [List.replicate_succ, List.flatten_cons, List.map_append, List.sum_append, ih, row, ← Nat.add_mul]
    congr 1
    rw [Nat.add_mul]
    omega
local macro_rules | `(tactic| walk_at "le") => `(tactic| repeat (first | exact le_nil | refine le_cons ?_ | refine le_no ?_))
theorem Cells.told {co : Nat → Int} {m : Nat} {y : Tx} {τ : Nat → Nat} {cells rows : List RowW} (h : Cells co m y τ cells) (hr : ∀ q, q ∈ rows ↔ q ∈ rowsC co m cells) {p : Pic} {r c : Nat} (hF : FamOk y names8 (nm8 0) rows p r c) {g : GramD} (hg : g = mkG y (nm8 0) (rows.map RowW.r)) :
    ∀ M, TableOf g.rules p r c M → (∃ v, look M (shw p, g.start) = some v) ∧ ∃ t, ftree g.rules M 60 p g.start = some t ∧ t.size + 1 = r * c + sumTau τ p := fun M hM => by
  rw [hg] at hM ⊢
  exact hF.chn (h.chn hr) hF.px h.m7 hM
section
variable {P : Program} {w : World} {K : PySem.W.Frag} {mg : Str → Option Value} {base : Heap}
theorem ok_law_sheet (T : Txt K mg) : Has P w K mg base 70 "_law_sheet" ["_law_script", "_law_sign"] lineLS := by
  refine Has.of (k := 69) T.f_law_sheet sc_law_sheet (fun A Q R ⟨s, k, e, _⟩ => by rw [e]; rfl) fun f cdv A outer s0 H E hr Γ Q R ⟨s, k, e, hs, hk, hq⟩ => ?_
  subst e
  refine st_setN 2 (xs := names8.take 7) (en_addL (xs := [([90, 90, 90, 90] : Tx)]) (ys := (([65, 66, 67, 68, 69, 70] : Tx).map fun c => ([c] : Tx)).map fun l => ([83] : Tx) ++ l) (ev_of_en (en_lst (es_cons (ev_str "ZZZZ") es_nil))) (ev_of_en (en_lc (α := Tx) (β := Tx) (own := [("_law_letter", 15)]) (f := fun l => ([83] : Tx) ++ l) (src_str (x := [65, 66, 67, 68, 69, 70]) (ev_str "ABCDEF")) (tg_name 15) (fun _ _ _ _ _ => pgn 15 sc_law_sheet.nd) (fun l hl _ _ _ _ _ => by
      obtain ⟨z, _, rfl⟩ := List.mem_map.mp hl
      exact ev_bin (o_addS (sl_small (by simp))) (ev_str "S") (ev_var 15)) sc_law_sheet.nd (ok := bk_law_sheet (by decide +kernel)) (hz := sl_small (by simp)))) (sl_small (by simp))) (fun a1 => st_freeze 2 (frozL (i := repTx)) ?_) sc_law_sheet.nd
  obtain ⟨c2, hc2⟩ : ∃ c, c = lawCell s.l 2 := ⟨_, rfl⟩
  have b1 := Int.emod_nonneg c2 (by decide : (7 : Int) ≠ 0)
  have b2 := Int.emod_lt_of_pos c2 (by decide : (0 : Int) < 7)
  obtain ⟨m, hm⟩ : ∃ a : Nat, c2 % 7 = (a : Int) := ⟨(c2 % 7).toNat, by omega⟩
  refine st_set 3 (x := (m : Int)) (ev_eq (ev_bin (o_mod (by decide)) (ev_eq (ev_call (x := lawCell s.l 2) (ok_law_cell T) (hr.mono (by decide)) (ea_cons (ev_var 0) (ea_cons (x := (2 : Int)) ev_int ea_nil)) fun P R h => ⟨s, 2, rfl, hs, by decide, h⟩) hc2.symm) ev_int) hm) ?_ sc_law_sheet.nd
  have hm6 : m ≤ 6 := by omega
  obtain ⟨co, hco⟩ : ∃ co : Nat → Int, co = fun j : Nat => 1 + lawCell s.l (3 + (j : Int)) % 9 := ⟨_, rfl⟩
  have hcb : ∀ i, 1 ≤ co i ∧ co i ≤ 9 := fun i => by
    rw [hco]
    have b1 := Int.emod_nonneg (lawCell s.l (3 + (i : Int))) (by decide : (9 : Int) ≠ 0)
    have b2 := Int.emod_lt_of_pos (lawCell s.l (3 + (i : Int))) (by decide : (0 : Int) < 9)
    exact ⟨by show 1 ≤ 1 + _; omega, by show 1 + _ ≤ 9; omega⟩
  refine st_setLc 4 (α := Int) (β := Int) (own := [("_law_k", 6)]) (f := fun k => 1 + lawCell s.l (3 + k) % 9) (src_range (n := 9) T.b_range ev_int (by decide) (by decide)) (tg_name 6) (fun _ _ _ _ _ => pgn 6 sc_law_sheet.nd) (fun k hk _ _ _ _ _ => by
      obtain ⟨i, hi⟩ := List.getElem?_of_mem hk
      obtain ⟨h1, rfl⟩ := rng_get0 hi
      exact ev_bin o_add ev_int (ev_bin (o_mod (by decide)) (ev_call (x := lawCell s.l (3 + (i : Int))) (ok_law_cell T) (hr.mono (by decide)) (ea_cons (ev_var 0) (ea_cons (x := 3 + (i : Int)) (ev_bin o_add ev_int (ev_var 6)) ea_nil)) fun P R h => ⟨s, _, rfl, hs, by omega, h⟩) ev_int)) sc_law_sheet.nd (by rw [rng_len]; exact sl_small (by decide)) (fun a2 => st_freeze 4 (frozL (i := repInt)) ?_) (ok := bk_law_sheet (by decide +kernel))
  obtain ⟨cs, hcs⟩ : ∃ cs, cs = (rng 0 (9 : Int).toNat).map fun k => 1 + lawCell s.l (3 + k) % 9 := ⟨_, rfl⟩
  rw [← hcs]
  have hat : ∀ j : Nat, j < 9 → atI cs (j : Int) = some (co j) := fun j hj => atI_nat (by
    rw [hcs, hco, List.getElem?_map]
    unfold rng
    rw [List.getElem?_map, List.getElem?_range (by omega : j < (9 : Int).toNat)]
    show some (1 + lawCell s.l (3 + (0 + (j : Int))) % 9) = _
    rw [Int.zero_add])
  have hnat : ∀ j : Nat, j < 7 → atI (names8.take 7) (j : Int) = some (nm8 j) := fun j hj => atI_nat (nm8_at7 j hj)
  obtain ⟨two, htwo⟩ : ∃ two : List RowW, two = [⟨.beside (nm8 0) (co 0) (nm8 0) (nm8 0)⟩, ⟨.above (nm8 0) (co 1) (nm8 0) (nm8 0)⟩] := ⟨_, rfl⟩
  have htl : two.length = 2 := by rw [htwo]; rfl
  refine st_setN 5 (xs := two) (by
    rw [htwo]
    exact en_lst (es_cons (ev_rowW (r := ⟨.beside (nm8 0) (co 0) (nm8 0) (nm8 0)⟩) ev_int (ev_ixL (xs := names8.take 7) (ev_var 2) ev_int (hnat 0 (by omega))) (ev_ixL (xs := cs) (ev_var 4) ev_int (hat 0 (by omega))) (ev_ixL (xs := names8.take 7) (ev_var 2) ev_int (hnat 0 (by omega))) (ev_d (α := Tx) (ev_ixL (xs := names8.take 7) (ev_var 2) ev_int (hnat 0 (by omega)))) rfl) (es_cons (ev_rowW (r := ⟨.above (nm8 0) (co 1) (nm8 0) (nm8 0)⟩) ev_int (ev_ixL (xs := names8.take 7) (ev_var 2) ev_int (hnat 0 (by omega))) (ev_ixL (xs := cs) (ev_var 4) ev_int (hat 1 (by omega))) (ev_ixL (xs := names8.take 7) (ev_var 2) ev_int (hnat 0 (by omega))) (ev_d (α := Tx) (ev_ixL (xs := names8.take 7) (ev_var 2) ev_int (hnat 0 (by omega)))) rfl) es_nil))) (fun ar => ?_) sc_law_sheet.nd
  refine st_for (xs := rng 0 (m : Int).toNat) (fun j Γ => Le Γ [vl s, vl ([k] : Tx), vl (names8.take 7), vl (m : Int), vl cs, .lst repRowW ar (two ++ (List.range j).map (turn8 co)), .no, .no, .no, .no, .no, .no, .no, .no, .no, .no]) (src_range (n := (m : Int)) T.b_range (ev_var 3) (by omega) (by omega)) (tg_name 6) (by
    show Le _ _
    rw [List.range_zero, List.map_nil, List.append_nil]
    walk_at "le") (fun j e Γ1 hj hP => ?_) (fun Γ1 hP => ?_) (pgn 6 sc_law_sheet.nd)
  · obtain ⟨h1, rfl⟩ := rng_get0 hj
    have h1 : j < m := h1
    refine st_le (Le.set hP 6 _) ?_
    refine st_append 5 (ad := ar) (xs := two ++ (List.range j).map (turn8 co)) (x := turn8 co j) (ev_rowW (r := turn8 co j) ev_int (ev_ixL (xs := names8.take 7) (ev_var 2) (ev_var 6) (hnat j (by omega))) (ev_ixL (xs := cs) (ev_var 4) (ev_bin o_add ev_int (ev_var 6)) (by
      have := hat (2 + j) (by omega)
      rwa [show ((2 + j : Nat) : Int) = 2 + (j : Int) by omega] at this)) (ev_ixL (xs := names8.take 7) (ev_var 2) (ev_bin o_add (ev_var 6) ev_int) (hnat (j + 1) (by omega))) (ev_d (α := Int) ev_int) rfl) (st_nil ?_) (lt_mid (by rw [List.length_append, List.length_map, List.length_range]; omega))
    show Le _ _
    rw [List.range_succ, List.map_append, ← List.append_assoc]
    exact le_cons (le_cons (le_cons (le_cons (le_cons (le_cons (le_no (le_no (le_no (le_no (le_no (le_no (le_no (le_no (le_no (le_no le_nil)))))))))))))))
  · have hP : Le Γ1 [vl s, vl ([k] : Tx), vl (names8.take 7), vl (m : Int), vl cs, .lst repRowW ar (two ++ (List.range (rng 0 (m : Int).toNat).length).map (turn8 co)), .no, .no, .no, .no, .no, .no, .no, .no, .no, .no] := hP
    rw [rng_len, Int.toNat_natCast] at hP
    refine st_le hP ?_
    refine st_append 5 (ad := ar) (xs := two ++ (List.range m).map (turn8 co)) (x := (⟨.cell (nm8 m) (co 8) [k]⟩ : RowW)) (ev_rowW (r := ⟨.cell (nm8 m) (co 8) [k]⟩) ev_int (ev_ixL (xs := names8.take 7) (ev_var 2) (ev_var 3) (hnat m (by omega))) (ev_ixL (xs := cs) (ev_var 4) ev_int (hat 8 (by omega))) (ev_var (x := ([k] : Tx)) 1) (ev_d (α := Tx) (ev_str "")) rfl) ?_ (lt_mid (by rw [List.length_append, List.length_map, List.length_range]; omega))
    obtain ⟨cells, hcells⟩ : ∃ cells : List RowW, cells = [⟨.cell (nm8 m) (co 8) [k]⟩] := ⟨_, rfl⟩
    obtain ⟨rows, hrows⟩ : ∃ rows : List RowW, rows = rowsC co m cells := ⟨_, rfl⟩
    have hrl : rows.length = m + 3 := by rw [hrows, hcells]; unfold rowsC; rw [List.length_append, List.length_append, List.length_map, List.length_range]; show 2 + m + 1 = _; omega
    have heq : two ++ (List.range m).map (turn8 co) ++ [(⟨.cell (nm8 m) (co 8) [k]⟩ : RowW)] = rows := by rw [hrows, hcells, htwo]; rfl
    refine st_le (Γ' := [vl s, vl ([k] : Tx), vl (names8.take 7), vl (m : Int), vl cs, .lst repRowW ar rows, .no, .no, .no, .no, .no, .no, .no, .no, .no, .no]) (by rw [← heq]; walk_at "le") ?_
    refine st_freeze 5 (x := rows) (frozL (i := repRowW)) ?_
    have hC : Cells co m [k] (fun _ => m) cells := ⟨by omega, hcb, fun q hq => by
      rw [hcells] at hq
      exact ⟨k, co 8, List.mem_singleton.mpr rfl, (hcb 8).1, (hcb 8).2, List.mem_singleton.mp hq⟩, fun z hz => by
      rw [List.mem_singleton.mp hz, hcells]
      exact ⟨co 8, List.mem_singleton.mpr rfl⟩, fun _ _ => Nat.le_refl _⟩
    have d1 := Int.emod_nonneg (c2 / 7) (by omega : (rows.length : Int) ≠ 0)
    have d2 := Int.emod_lt_of_pos (c2 / 7) (by omega : (0 : Int) < (rows.length : Int))
    obtain ⟨t, ht⟩ : ∃ t : Nat, c2 / 7 % (rows.length : Int) = (t : Int) := ⟨(c2 / 7 % (rows.length : Int)).toNat, by omega⟩
    refine st_set 7 (x := (t : Int)) (ev_eq (ev_bin (o_mod (by omega)) (ev_bin (o_div divK) (ev_eq (ev_call (x := lawCell s.l 2) (ok_law_cell T) (hr.mono (by decide)) (ea_cons (ev_var 0) (ea_cons (x := (2 : Int)) ev_int ea_nil)) fun P R h => ⟨s, 2, rfl, hs, by decide, h⟩) hc2.symm) ev_int) (ev_len T.b_len (ev_var (x := rows) 5))) ht) ?_ sc_law_sheet.nd
    obtain ⟨c, hc⟩ : ∃ c, c = lawCell s.l 1 := ⟨_, rfl⟩
    refine st_set 8 (x := c) (ev_eq (ev_call (x := lawCell s.l 1) (ok_law_cell T) (hr.mono (by decide)) (ea_cons (ev_var 0) (ea_cons (x := (1 : Int)) ev_int ea_nil)) fun P R h => ⟨s, 1, rfl, hs, by decide, h⟩) hc.symm) ?_ sc_law_sheet.nd
    have go : ∀ r q : Nat, 1 ≤ r → r ≤ 6 → 1 ≤ q → q ≤ 6 → Tw.ST (cxOf (L2.CX P w) P w K mg base N_law_sheet "_law_sheet" (defScope s_law_sheet) f cdv A outer s0 H E).nox ((defBody s_law_sheet).drop 11) [vl s, vl ([k] : Tx), vl (names8.take 7), vl (m : Int), vl cs, vl rows, .no, vl (t : Int), vl c, vl (r : Int), vl (q : Int), .no, .no, .no, .no, .no] (fin Q) := fun r q hr1 hr6 hq1 hq6 => by
      obtain ⟨rs, hrs⟩ : ∃ rs, rs = rows.drop t ++ rows.take t := ⟨_, rfl⟩
      have hmem : ∀ z, z ∈ rs ↔ z ∈ rowsC co m cells := fun z => by
        rw [hrs, ← hrows]
        conv => rhs; rw [← List.take_append_drop t rows]
        rw [List.mem_append, List.mem_append]
        exact Or.comm
      have hrsl : rs.length = m + 3 := by rw [hrs, List.length_append, List.length_drop, List.length_take]; omega
      obtain ⟨p, hpp⟩ : ∃ p : Pic, p = List.replicate r (List.replicate q k) := ⟨_, rfl⟩
      have hone : One k p r q := by rw [hpp]; exact one_rows hr1 hr6 hq1 hq6
      have hsg : signsOk [k] = true := by
        unfold signsOk
        simp only [Bool.and_eq_true, decide_eq_true_eq, List.all_eq_true]
        exact ⟨⟨by simp, by simp⟩, by simp, fun z hz => by rw [List.mem_singleton.mp hz]; exact hk⟩
      have hF := hC.ok hmem (by omega) hsg hone.1 (fun z hz y hy => by rw [hone.2 z hz y hy]; exact List.mem_singleton.mpr rfl)
      obtain ⟨g, hg⟩ : ∃ g, g = mkG [k] (nm8 0) (rs.map RowW.r) := ⟨_, rfl⟩
      have htold := hC.told hmem hF hg
      have hsum : sumTau (fun _ => m) p = r * q * (m + 1) := sumTau_one (s := k) (d := m) rfl p r q hpp
      have hT : TblPre g p r q := by rw [hg]; exact hF.tbl
      have hgn : ∀ q ∈ g.rules, q.name ∈ g.names ∧ ∀ m ∈ q.parts, m ∈ g.names := by rw [hg]; exact hF.nms
      have h36 : r * q ≤ 6 * 6 := Nat.mul_le_mul hr6 hq6
      have hbig : r * q * (m + 1) ≤ 36 * 7 := Nat.mul_le_mul h36 (by omega)
      have h9 : ∀ M, TableOf g.rules p r q M → (∃ v, look M (shw p, g.start) = some v) ∧ ∀ t, ftree g.rules M 60 p g.start = some t → t.size ≤ 900 := fun M hM => ⟨(htold M hM).1, fun t ht => by
        obtain ⟨_, t', h1, h2⟩ := htold M hM
        rw [h1] at ht
        cases ht
        omega⟩
      have hpos : 1 ≤ r * q := Nat.mul_pos hr1 hq1
      obtain ⟨D, hD⟩ : ∃ D : Nat, D + 1 = r * q * (m + 2) := ⟨r * q * (m + 2) - 1, by have := Nat.mul_le_mul hpos (show 1 ≤ m + 2 by omega); omega⟩
      have hDe : r * q * (m + 2) = r * q + r * q * (m + 1) := by rw [Nat.mul_succ (r * q) (m + 1)]; omega
      have hdue : (r : Int) * (q : Int) * ((m : Int) + 2) - 1 = (D : Int) := by
        have : ((r * q * (m + 2) : Nat) : Int) = (r : Int) * (q : Int) * ((m : Int) + 2) := by rw [Int.natCast_mul, Int.natCast_mul, Int.natCast_add]; rfl
        omega
      have hb1 : (r : Int) * (q : Int) = ((r * q : Nat) : Int) := (Int.natCast_mul r q).symm
      refine st_set 11 (x := g) (ev_call (ok_law_grammar T) (hr.mono (by decide)) (ea_cons (x := onesT [k]) (ev_of_en (en_lst (es_cons (x := ([k] : Tx)) (ev_var 1) es_nil))) (ea_cons (x := nm8 0) (ev_ixL (xs := names8.take 7) (ev_var 2) ev_int (hnat 0 (by omega))) (ea_cons (x := rs) (ev_of_en (en_eq (en_addL (ev_of_en (en_eq (en_sliceL (o1 := some (t : Int)) (o2 := none) (ev_var (x := rows) 5) (ev_var 7) trivial) (cutL_from t))) (ev_of_en (en_eq (en_sliceL (o1 := none) (o2 := some (t : Int)) (ev_var (x := rows) 5) trivial (ev_var 7)) (cutL_to t))) (sl_small (by rw [List.length_drop, List.length_take]; omega))) hrs.symm)) ea_nil))) fun P R h => ⟨[k], nm8 0, rs, rfl, by simp, by have := isName_len (hF.nm _ hF.st); omega, hF.len, fun q hq => (hF.row q hq).1, hF.why, by rw [← hg]; exact h⟩) ?_ sc_law_sheet.nd
      have hpic : ∀ {e1 : Expr}, True := trivial
      by_cases h200 : D ≤ 200
      · refine st_asgEx (G := fun z : Option Tr × List Bool => ∃ t : Tr, t.dep ≤ 60 ∧ t.size = D ∧ z = (some t, [])) (bind := fun z Γ => (Γ.set 12 (.val repOpt z.1)).set 13 (.val repList z.2)) (ex_call (ok_law_asked T) (hr.mono (by decide)) (ea_cons (x := g) (ev_var 11) (ea_cons (x := p) (ev_of_en (en_eq (en_rep (xs := [List.replicate q k]) (n := (r : Int)) (en_lst (es_cons (x := (List.replicate q k : Tx)) (ev_eq (ev_bin (o_mulT (x := ([k] : Tx)) (n := (q : Int)) (by simp) (by omega) (by omega)) (ev_var 1) (ev_var 10)) (by rw [flat_one, Int.toNat_natCast])) es_nil)) (ev_var 9) (by omega) (by omega) (sl_small (by simp; omega))) (by rw [Int.toNat_natCast, hpp]; clear hb1 hdue hD hDe hpos hbig h36 hsum hpic hone hpp hF htold hT hgn h9 hr1 hr6; induction r with
          | zero => rfl
          | succ r ih => simp [List.replicate_succ] at ih ⊢))) ea_nil)) fun P' R' h => ⟨g, p, r, q, rfl, hT, hF.slash, hgn, h9, .inl ⟨fun M hM => by
            obtain ⟨_, t', h1, h2⟩ := htold M hM
            exact ⟨t', h1, by omega⟩, fun M t' hM ht => by
            obtain ⟨_, t2, h1, h2⟩ := htold M hM
            rw [h1] at ht
            cases ht
            exact h _ ⟨_, ⟨t', ftree_dep h1, by omega, rfl⟩, rfl⟩⟩⟩) (tg_pair 12 13 (by decide)) (fun z hz => ?_) (pg2 12 13 (pgn 12 sc_law_sheet.nd) (pgn 13 sc_law_sheet.nd))
        obtain ⟨t', hz1, hz2, rfl⟩ := hz
        refine st_set 14 (x := (D : Int)) (ev_eq (ev_bin o_sub (ev_bin (o_mul (x := (r : Int) * (q : Int)) (y := (m : Int) + 2) (.inl ⟨by omega, by omega⟩)) (ev_bin (o_mul (x := (r : Int)) (y := (q : Int)) (.inl ⟨by omega, by omega⟩)) (ev_var 9) (ev_var 10)) (ev_bin o_add (ev_var 3) ev_int)) ev_int) hdue) ?_ sc_law_sheet.nd
        refine st_if (k := false) (et_eq (et_cmp o_gt (ev_var (x := (D : Int)) 14) ev_int) (decide_eq_false (by omega))) (fun h => nomatch h) (fun _ => st_nil ?_)
        exact st_retV (x := true) (ev_eq (y := true) (ev_and (ev_cmp (o_eqD (α := List Bool) (x := []) (y := []) hr (fun _ _ => trivial) (fun _ _ => trivial)) (ev_var (x := ([] : List Bool)) 13) (ev_of_en (en_nil Bool))) fun _ => ev_and2 (ev_isi (α := Tup Dy) (x := Tup.mk (Dy.i t'.num :: t'.subs.map Tr.d)) "tuple" true T.b_isinstance T.b_tuple (ev_tupTr (t := t') (ev_un (ev_var (x := (some t' : Option Tr)) 12)))) fun _ => ev_cmp o_eq (ev_call (x := (t'.size : Int)) (ok_law_numbers T 60) (hr.mono (by decide)) (ea_cons (x := t') (ev_un (ev_var (x := (some t' : Option Tr)) 12)) ea_nil) fun P R h => ⟨t', rfl, by omega, h⟩) (ev_var (x := (D : Int)) 14)) (by rw [hz2]; simp)) hq
      · refine st_asgEx (G := fun z : Option Tr × List Bool => z = (none, [true, false, false, false])) (bind := fun z Γ => (Γ.set 12 (.val repOpt z.1)).set 13 (.val repList z.2)) (ex_call (ok_law_asked T) (hr.mono (by decide)) (ea_cons (x := g) (ev_var 11) (ea_cons (x := p) (ev_of_en (en_eq (en_rep (xs := [List.replicate q k]) (n := (r : Int)) (en_lst (es_cons (x := (List.replicate q k : Tx)) (ev_eq (ev_bin (o_mulT (x := ([k] : Tx)) (n := (q : Int)) (by simp) (by omega) (by omega)) (ev_var 1) (ev_var 10)) (by rw [flat_one, Int.toNat_natCast])) es_nil)) (ev_var 9) (by omega) (by omega) (sl_small (by simp; omega))) (by rw [Int.toNat_natCast, hpp]; clear hb1 hdue hD hDe hpos hbig h36 hsum hpic hone hpp hF htold hT hgn h9 hr1 hr6; induction r with
          | zero => rfl
          | succ r ih => simp [List.replicate_succ] at ih ⊢))) ea_nil)) fun P' R' h => ⟨g, p, r, q, rfl, hT, hF.slash, hgn, h9, .inr ⟨(fun M t' hM ht => by
            obtain ⟨_, t2, h1, h2⟩ := htold M hM
            rw [h1] at ht
            cases ht
            omega), h _ ⟨_, rfl, rfl⟩⟩⟩) (tg_pair 12 13 (by decide)) (fun z hz => ?_) (pg2 12 13 (pgn 12 sc_law_sheet.nd) (pgn 13 sc_law_sheet.nd))
        subst hz
        refine st_set 14 (x := (D : Int)) (ev_eq (ev_bin o_sub (ev_bin (o_mul (x := (r : Int) * (q : Int)) (y := (m : Int) + 2) (.inl ⟨by omega, by omega⟩)) (ev_bin (o_mul (x := (r : Int)) (y := (q : Int)) (.inl ⟨by omega, by omega⟩)) (ev_var 9) (ev_var 10)) (ev_bin o_add (ev_var 3) ev_int)) ev_int) hdue) ?_ sc_law_sheet.nd
        refine st_if (k := true) (et_eq (et_cmp o_gt (ev_var (x := (D : Int)) 14) ev_int) (decide_eq_true (by omega))) (fun _ => ?_) (fun h => nomatch h)
        exact st_retV (x := true) (ev_eq (y := true) (ev_and2 (ev_cmp (o_isO (α := Tr) (x := none)) (ev_var (x := (none : Option Tr)) 12) ev_non) fun _ => ev_cmp (o_eqD (α := List Bool) (x := [true, false, false, false]) (y := [true, false, false, false]) hr (fun _ _ => trivial) (fun _ _ => trivial)) (ev_var (x := [true, false, false, false]) 13) (ev_of_en (en_lst (es_cons ev_bl (es_cons ev_bl (es_cons ev_bl (es_cons ev_bl es_nil))))))) (by simp)) hq
    have e1 := Int.emod_nonneg c (by decide : (6 : Int) ≠ 0)
    have e2 := Int.emod_lt_of_pos c (by decide : (0 : Int) < 6)
    have e3 := Int.emod_nonneg (c / 6) (by decide : (6 : Int) ≠ 0)
    have e4 := Int.emod_lt_of_pos (c / 6) (by decide : (0 : Int) < 6)
    have e5 := Int.emod_nonneg c (by decide : (3 : Int) ≠ 0)
    have e6 := Int.emod_lt_of_pos c (by decide : (0 : Int) < 3)
    have e7 := Int.emod_nonneg (c / 6) (by decide : (3 : Int) ≠ 0)
    have e8 := Int.emod_lt_of_pos (c / 6) (by decide : (0 : Int) < 3)
    obtain ⟨r, hr'⟩ : ∃ a : Nat, 1 + c % 6 = (a : Int) := ⟨(1 + c % 6).toNat, by omega⟩
    obtain ⟨q, hq'⟩ : ∃ a : Nat, 1 + c / 6 % 6 = (a : Int) := ⟨(1 + c / 6 % 6).toNat, by omega⟩
    obtain ⟨r2, hr2⟩ : ∃ a : Nat, 4 + c % 3 = (a : Int) := ⟨(4 + c % 3).toNat, by omega⟩
    obtain ⟨q2, hq2⟩ : ∃ a : Nat, 4 + c / 6 % 3 = (a : Int) := ⟨(4 + c / 6 % 3).toNat, by omega⟩
    refine st_le (Γ' := [vl s, vl ([k] : Tx), vl (names8.take 7), vl (m : Int), vl cs, vl rows, .no, vl (t : Int), vl c, .no, .no, .no, .no, .no, .no, .no]) (by walk_at "le") ?_
    refine st_set 9 (x := (r : Int)) (ev_eq (ev_bin o_add ev_int (ev_bin (o_mod (by decide)) (ev_var 8) ev_int)) hr') ?_ sc_law_sheet.nd
    refine st_set 10 (x := (q : Int)) (ev_eq (ev_bin o_add ev_int (ev_bin (o_mod (by decide)) (ev_bin (o_div divK) (ev_var 8) ev_int) ev_int)) hq') ?_ sc_law_sheet.nd
    refine st_if (et_cmp o_eq (ev_bin (o_mod (by decide)) (ev_bin (o_div divK) (ev_var 8) ev_int) ev_int) ev_int) (fun _ => ?_) (fun _ => st_nil (go r q (by omega) (by omega) (by omega) (by omega)))
    refine st_set 9 (x := (r2 : Int)) (ev_eq (ev_bin o_add ev_int (ev_bin (o_mod (by decide)) (ev_var 8) ev_int)) hr2) ?_ sc_law_sheet.nd
    exact st_set 10 (x := (q2 : Int)) (ev_eq (ev_bin o_add ev_int (ev_bin (o_mod (by decide)) (ev_bin (o_div divK) (ev_var 8) ev_int) ev_int)) hq2) (st_nil (go r2 q2 (by omega) (by omega) (by omega) (by omega))) sc_law_sheet.nd
end
local macro_rules | `(tactic| walk_at "le") => `(tactic| repeat (first | exact le_nil | refine le_cons ?_ | refine le_no ?_))
noncomputable def cornerLS : Tw.Spec := fun A P _ => ∃ (s : Scr) (k0 k1 : Nat), A = [vl s, vl (onesT [k0, k1])] ∧ s.l.length ≤ 63 ∧ k1 ≠ k0 ∧ signsOk [k0, k1] = true ∧ P (rv true)
noncomputable def tau27 (k0 z : Nat) : Nat := if z = k0 then 6 else 7
noncomputable def pic27 (k0 k1 n : Nat) : Pic := (List.replicate n k1 ++ List.replicate (5 - n) k0) :: List.replicate 4 (List.replicate 5 k0)
theorem pic27_sum {k0 k1 n : Nat} (h : k1 ≠ k0) (hn : n ≤ 2) : sumTau (tau27 k0) (pic27 k0 k1 n) = 175 + n := by
  have t0 : tau27 k0 k0 = 6 := if_pos rfl
  have t1 : tau27 k0 k1 = 7 := if_neg h
  rcases (by omega : n = 0 ∨ n = 1 ∨ n = 2) with rfl | rfl | rfl <;> simp [sumTau, pic27, List.replicate, t0, t1]
theorem pic27_pk {k0 k1 n : Nat} (hn : n ≤ 2) : Pk (pic27 k0 k1 n) 5 5 := ⟨by simp [pic27], fun y hy => by
  rcases List.mem_cons.mp hy with rfl | hy
  · simp; omega
  · rw [(List.mem_replicate.mp hy).2, List.length_replicate], by decide, by decide, by decide, by decide⟩
theorem pic27_in {k0 k1 n : Nat} : ∀ z ∈ pic27 k0 k1 n, ∀ k ∈ z, k ∈ [k0, k1] := fun z hz k hk => by
  rcases List.mem_cons.mp hz with rfl | hz
  · rcases List.mem_append.mp hk with hk | hk
    · rw [(List.mem_replicate.mp hk).2]; exact List.mem_cons_of_mem _ (List.mem_singleton.mpr rfl)
    · rw [(List.mem_replicate.mp hk).2]; exact List.mem_cons_self ..
  · rw [(List.mem_replicate.mp hz).2] at hk
    rw [(List.mem_replicate.mp hk).2]; exact List.mem_cons_self ..
section
variable {P : Program} {w : World} {K : PySem.W.Frag} {mg : Str → Option Value} {base : Heap}
theorem ok_law_corner (T : Txt K mg) : Has P w K mg base 70 "_law_corner" ["_law_script", "_law_signs_here"] cornerLS := by
  refine Has.of (k := 69) T.f_law_corner sc_law_corner (fun A Q R ⟨s, k0, k1, e, _⟩ => by rw [e]; rfl) fun f cdv A outer s0 H E hr Γ Q R ⟨s, k0, k1, e, hs, hne, hsg, hq⟩ => ?_
  subst e
  refine st_setN 2 (xs := names8) (en_addL (xs := [([90, 90, 90, 90] : Tx)]) (ys := (([65, 66, 67, 68, 69, 70, 71] : Tx).map fun c => ([c] : Tx)).map fun l => ([83] : Tx) ++ l) (ev_of_en (en_lst (es_cons (ev_str "ZZZZ") es_nil))) (ev_of_en (en_lc (α := Tx) (β := Tx) (own := [("_law_letter", 11)]) (f := fun l => ([83] : Tx) ++ l) (src_str (x := [65, 66, 67, 68, 69, 70, 71]) (ev_str "ABCDEFG")) (tg_name 11) (fun _ _ _ _ _ => pgn 11 sc_law_corner.nd) (fun l hl _ _ _ _ _ => by
      obtain ⟨z, _, rfl⟩ := List.mem_map.mp hl
      exact ev_bin (o_addS (sl_small (by simp))) (ev_str "S") (ev_var 11)) sc_law_corner.nd (ok := bk_law_corner (by decide +kernel)) (hz := sl_small (by simp)))) (sl_small (by simp))) (fun a1 => st_freeze 2 (frozL (i := repTx)) ?_) sc_law_corner.nd
  obtain ⟨co, hco⟩ : ∃ co : Nat → Int, co = fun j : Nat => 1 + lawCell s.l (3 + (j : Int)) % 9 := ⟨_, rfl⟩
  have hcb : ∀ i, 1 ≤ co i ∧ co i ≤ 9 := fun i => by
    rw [hco]
    have b1 := Int.emod_nonneg (lawCell s.l (3 + (i : Int))) (by decide : (9 : Int) ≠ 0)
    have b2 := Int.emod_lt_of_pos (lawCell s.l (3 + (i : Int))) (by decide : (0 : Int) < 9)
    exact ⟨by show 1 ≤ 1 + _; omega, by show 1 + _ ≤ 9; omega⟩
  refine st_setLc 3 (α := Int) (β := Int) (own := [("_law_k", 5)]) (f := fun k => 1 + lawCell s.l (3 + k) % 9) (src_range (n := 11) T.b_range ev_int (by decide) (by decide)) (tg_name 5) (fun _ _ _ _ _ => pgn 5 sc_law_corner.nd) (fun k hk _ _ _ _ _ => by
      obtain ⟨i, hi⟩ := List.getElem?_of_mem hk
      obtain ⟨h1, rfl⟩ := rng_get0 hi
      exact ev_bin o_add ev_int (ev_bin (o_mod (by decide)) (ev_call (x := lawCell s.l (3 + (i : Int))) (ok_law_cell T) (hr.mono (by decide)) (ea_cons (ev_var 0) (ea_cons (x := 3 + (i : Int)) (ev_bin o_add ev_int (ev_var 5)) ea_nil)) fun P R h => ⟨s, _, rfl, hs, by omega, h⟩) ev_int)) sc_law_corner.nd (by rw [rng_len]; exact sl_small (by decide)) (fun a2 => st_freeze 3 (frozL (i := repInt)) ?_) (ok := bk_law_corner (by decide +kernel))
  obtain ⟨cs, hcs⟩ : ∃ cs, cs = (rng 0 (11 : Int).toNat).map fun k => 1 + lawCell s.l (3 + k) % 9 := ⟨_, rfl⟩
  rw [← hcs]
  have hat : ∀ j : Nat, j < 11 → atI cs (j : Int) = some (co j) := fun j hj => atI_nat (by
    rw [hcs, hco, List.getElem?_map]
    unfold rng
    rw [List.getElem?_map, List.getElem?_range (by omega : j < (11 : Int).toNat)]
    show some (1 + lawCell s.l (3 + (0 + (j : Int))) % 9) = _
    rw [Int.zero_add])
  have hnat : ∀ j : Nat, j < 8 → atI names8 (j : Int) = some (nm8 j) := fun j hj => atI_nat (nm8_at j hj)
  have hs0 : atI (onesT [k0, k1]) (0 : Int) = some ([k0] : Tx) := atI_nat (xs := onesT [k0, k1]) (j := 0) rfl
  have hs1 : atI (onesT [k0, k1]) (1 : Int) = some ([k1] : Tx) := atI_nat (xs := onesT [k0, k1]) (j := 1) rfl
  obtain ⟨two, htwo⟩ : ∃ two : List RowW, two = [⟨.beside (nm8 0) (co 0) (nm8 0) (nm8 0)⟩, ⟨.above (nm8 0) (co 1) (nm8 0) (nm8 0)⟩] := ⟨_, rfl⟩
  have htl : two.length = 2 := by rw [htwo]; rfl
  refine st_setN 4 (xs := two) (by
    rw [htwo]
    exact en_lst (es_cons (ev_rowW (r := ⟨.beside (nm8 0) (co 0) (nm8 0) (nm8 0)⟩) ev_int (ev_ixL (xs := names8) (ev_var 2) ev_int (hnat 0 (by omega))) (ev_ixL (xs := cs) (ev_var 3) ev_int (hat 0 (by omega))) (ev_ixL (xs := names8) (ev_var 2) ev_int (hnat 0 (by omega))) (ev_d (α := Tx) (ev_ixL (xs := names8) (ev_var 2) ev_int (hnat 0 (by omega)))) rfl) (es_cons (ev_rowW (r := ⟨.above (nm8 0) (co 1) (nm8 0) (nm8 0)⟩) ev_int (ev_ixL (xs := names8) (ev_var 2) ev_int (hnat 0 (by omega))) (ev_ixL (xs := cs) (ev_var 3) ev_int (hat 1 (by omega))) (ev_ixL (xs := names8) (ev_var 2) ev_int (hnat 0 (by omega))) (ev_d (α := Tx) (ev_ixL (xs := names8) (ev_var 2) ev_int (hnat 0 (by omega)))) rfl) es_nil))) (fun ar => ?_) sc_law_corner.nd
  refine st_for (xs := rng 0 (7 : Int).toNat) (fun j Γ => Le Γ [vl s, vl (onesT [k0, k1]), vl names8, vl cs, .lst repRowW ar (two ++ (List.range j).map (turn8 co)), .no, .no, .no, .no, .no, .no, .no]) (src_range (n := 7) T.b_range ev_int (by decide) (by decide)) (tg_name 5) (by
    show Le _ _
    rw [List.range_zero, List.map_nil, List.append_nil]
    walk_at "le") (fun j e Γ1 hj hP => ?_) (fun Γ1 hP => ?_) (pgn 5 sc_law_corner.nd)
  · obtain ⟨h1, rfl⟩ := rng_get0 hj
    have h1 : j < 7 := h1
    refine st_le (Le.set hP 5 _) ?_
    refine st_append 4 (ad := ar) (xs := two ++ (List.range j).map (turn8 co)) (x := turn8 co j) (ev_rowW (r := turn8 co j) ev_int (ev_ixL (xs := names8) (ev_var 2) (ev_var 5) (hnat j (by omega))) (ev_ixL (xs := cs) (ev_var 3) (ev_bin o_add ev_int (ev_var 5)) (by
      have := hat (2 + j) (by omega)
      rwa [show ((2 + j : Nat) : Int) = 2 + (j : Int) by omega] at this)) (ev_ixL (xs := names8) (ev_var 2) (ev_bin o_add (ev_var 5) ev_int) (hnat (j + 1) (by omega))) (ev_d (α := Int) ev_int) rfl) (st_nil ?_) (lt_mid (by rw [List.length_append, List.length_map, List.length_range]; omega))
    show Le _ _
    rw [List.range_succ, List.map_append, ← List.append_assoc]
    exact le_cons (le_cons (le_cons (le_cons (le_cons (le_no (le_no (le_no (le_no (le_no (le_no (le_no le_nil)))))))))))
  · have hP : Le Γ1 [vl s, vl (onesT [k0, k1]), vl names8, vl cs, .lst repRowW ar (two ++ (List.range 7).map (turn8 co)), .no, .no, .no, .no, .no, .no, .no] := hP
    refine st_le hP ?_
    refine st_append 4 (ad := ar) (xs := two ++ (List.range 7).map (turn8 co)) (x := (⟨.cell (nm8 6) (co 9) [k0]⟩ : RowW)) (ev_rowW (r := ⟨.cell (nm8 6) (co 9) [k0]⟩) ev_int (ev_ixL (xs := names8) (ev_var 2) ev_int (hnat 6 (by omega))) (ev_ixL (xs := cs) (ev_var 3) ev_int (hat 9 (by omega))) (ev_ixL (xs := onesT [k0, k1]) (ev_var 1) ev_int hs0) (ev_d (α := Tx) (ev_str "")) rfl) ?_ (lt_mid (by rw [List.length_append, List.length_map, List.length_range]; omega))
    refine st_append 4 (ad := ar) (xs := two ++ (List.range 7).map (turn8 co) ++ [(⟨.cell (nm8 6) (co 9) [k0]⟩ : RowW)]) (x := (⟨.cell (nm8 7) (co 10) [k1]⟩ : RowW)) (ev_rowW (r := ⟨.cell (nm8 7) (co 10) [k1]⟩) ev_int (ev_ixL (xs := names8) (ev_var 2) ev_int (hnat 7 (by omega))) (ev_ixL (xs := cs) (ev_var 3) ev_int (hat 10 (by omega))) (ev_ixL (xs := onesT [k0, k1]) (ev_var 1) ev_int hs1) (ev_d (α := Tx) (ev_str "")) rfl) ?_ (lt_mid (by rw [List.length_append, List.length_append, List.length_map, List.length_range, htl]; show 2 + 7 + 1 ≤ _; decide))
    obtain ⟨cells, hcells⟩ : ∃ cells : List RowW, cells = [⟨.cell (nm8 6) (co 9) [k0]⟩, ⟨.cell (nm8 7) (co 10) [k1]⟩] := ⟨_, rfl⟩
    obtain ⟨rows, hrows⟩ : ∃ rows : List RowW, rows = rowsC co 7 cells := ⟨_, rfl⟩
    have hrl : rows.length = 11 := by rw [hrows, hcells]; unfold rowsC; rw [List.length_append, List.length_append, List.length_map, List.length_range]; rfl
    have heq : two ++ (List.range 7).map (turn8 co) ++ [(⟨.cell (nm8 6) (co 9) [k0]⟩ : RowW)] ++ [(⟨.cell (nm8 7) (co 10) [k1]⟩ : RowW)] = rows := by rw [hrows, hcells, htwo, List.append_assoc]; rfl
    refine st_le (Γ' := [vl s, vl (onesT [k0, k1]), vl names8, vl cs, .lst repRowW ar rows, .no, .no, .no, .no, .no, .no, .no]) (by rw [← heq]; walk_at "le") ?_
    refine st_freeze 4 (x := rows) (frozL (i := repRowW)) ?_
    have t0 : tau27 k0 k0 = 6 := if_pos rfl
    have t1 : tau27 k0 k1 = 7 := if_neg hne
    have hC : Cells co 7 [k0, k1] (tau27 k0) cells := ⟨by omega, hcb, fun q hq => by
      rw [hcells] at hq
      rcases List.mem_cons.mp hq with rfl | hq
      · exact ⟨k0, co 9, List.mem_cons_self .., (hcb 9).1, (hcb 9).2, by rw [t0]⟩
      · rw [List.mem_singleton.mp hq]
        exact ⟨k1, co 10, List.mem_cons_of_mem _ (List.mem_singleton.mpr rfl), (hcb 10).1, (hcb 10).2, by rw [t1]⟩, fun z hz => by
      rw [hcells]
      rcases List.mem_cons.mp hz with rfl | hz
      · exact ⟨co 9, by rw [t0]; exact List.mem_cons_self ..⟩
      · rw [List.mem_singleton.mp hz, t1]
        exact ⟨co 10, List.mem_cons_of_mem _ (List.mem_singleton.mpr rfl)⟩, fun z _ => by unfold tau27; split <;> decide⟩
    obtain ⟨c, hc⟩ : ∃ c, c = lawCell s.l 1 := ⟨_, rfl⟩
    have e5 := Int.emod_nonneg c (by decide : (3 : Int) ≠ 0)
    have e6 := Int.emod_lt_of_pos c (by decide : (0 : Int) < 3)
    obtain ⟨n, hn⟩ : ∃ a : Nat, c % 3 = (a : Int) := ⟨(c % 3).toNat, by omega⟩
    have hn2 : n ≤ 2 := by omega
    refine st_set 6 (x := (n : Int)) (ev_eq (ev_bin (o_mod (by decide)) (ev_eq (ev_call (x := lawCell s.l 1) (ok_law_cell T) (hr.mono (by decide)) (ea_cons (ev_var 0) (ea_cons (x := (1 : Int)) ev_int ea_nil)) fun P R h => ⟨s, 1, rfl, hs, by decide, h⟩) hc.symm) ev_int) hn) ?_ sc_law_corner.nd
    obtain ⟨up, hup⟩ : ∃ up : Tx, up = List.replicate n k1 ++ List.replicate (5 - n) k0 := ⟨_, rfl⟩
    refine st_set 7 (x := up) (ev_eq (ev_bin (o_addS (x := List.replicate n k1) (y := List.replicate (5 - n) k0) (sl_small (by simp; omega))) (ev_eq (ev_bin (o_mulT (x := ([k1] : Tx)) (n := (n : Int)) (by simp) (by omega) (by omega)) (ev_ixL (xs := onesT [k0, k1]) (ev_var 1) ev_int hs1) (ev_var 6)) (by rw [flat_one, Int.toNat_natCast])) (ev_eq (ev_bin (o_mulT (x := ([k0] : Tx)) (n := 5 - (n : Int)) (by simp) (by omega) (by omega)) (ev_ixL (xs := onesT [k0, k1]) (ev_var 1) ev_int hs0) (ev_bin o_sub ev_int (ev_var 6))) (by rw [flat_one, show (5 - (n : Int)).toNat = 5 - n by omega]))) hup.symm) ?_ sc_law_corner.nd
    have hmem : ∀ z, z ∈ rows ↔ z ∈ rowsC co 7 cells := fun z => by rw [hrows]
    obtain ⟨p, hpp⟩ : ∃ p : Pic, p = pic27 k0 k1 n := ⟨_, rfl⟩
    have hpk : Pk p 5 5 := by rw [hpp]; exact pic27_pk hn2
    have hF := hC.ok hmem (by omega) hsg hpk (by rw [hpp]; exact pic27_in)
    obtain ⟨g, hg⟩ : ∃ g, g = mkG [k0, k1] (nm8 0) (rows.map RowW.r) := ⟨_, rfl⟩
    have htold := hC.told hmem hF hg
    have hsum : sumTau (tau27 k0) p = 175 + n := by rw [hpp]; exact pic27_sum hne hn2
    have hT : TblPre g p 5 5 := by rw [hg]; exact hF.tbl
    have hgn : ∀ q ∈ g.rules, q.name ∈ g.names ∧ ∀ m ∈ q.parts, m ∈ g.names := by rw [hg]; exact hF.nms
    have h9 : ∀ M, TableOf g.rules p 5 5 M → (∃ v, look M (shw p, g.start) = some v) ∧ ∀ t, ftree g.rules M 60 p g.start = some t → t.size ≤ 900 := fun M hM => ⟨(htold M hM).1, fun t ht => by
      obtain ⟨_, t', h1, h2⟩ := htold M hM
      rw [h1] at ht
      cases ht
      omega⟩
    refine st_set 8 (x := g) (ev_call (ok_law_grammar T) (hr.mono (by decide)) (ea_cons (x := onesT [k0, k1]) (ev_var 1) (ea_cons (x := nm8 0) (ev_ixL (xs := names8) (ev_var 2) ev_int (hnat 0 (by omega))) (ea_cons (x := rows) (ev_var 4) ea_nil))) fun P R h => ⟨[k0, k1], nm8 0, rows, rfl, by simp, by have := isName_len (hF.nm _ hF.st); omega, hF.len, fun q hq => (hF.row q hq).1, hF.why, by rw [← hg]; exact h⟩) ?_ sc_law_corner.nd
    have hpic : up :: List.replicate 4 (List.replicate 5 k0) = p := by rw [hpp, hup]; rfl
    by_cases h1n : n ≤ 1
    · refine st_asgEx (G := fun z : Option Tr × List Bool => ∃ t : Tr, t.dep ≤ 60 ∧ t.size = 199 + n ∧ z = (some t, [])) (bind := fun z Γ => (Γ.set 9 (.val repOpt z.1)).set 10 (.val repList z.2)) (ex_call (ok_law_asked T) (hr.mono (by decide)) (ea_cons (x := g) (ev_var 8) (ea_cons (x := p) (ev_of_en (en_eq (en_addL (xs := [up]) (ys := List.replicate 4 (List.replicate 5 k0)) (ev_of_en (en_lst (es_cons (x := up) (ev_var 7) es_nil))) (ev_of_en (en_rep (xs := [(List.replicate 5 k0 : Tx)]) (n := 4) (en_lst (es_cons (x := (List.replicate 5 k0 : Tx)) (ev_bin (o_mulT (x := ([k0] : Tx)) (n := 5) (by simp) (by decide) (by decide)) (ev_ixL (xs := onesT [k0, k1]) (ev_var 1) ev_int hs0) ev_int) es_nil)) ev_int (by decide) (by decide) (sl_small (by simp)))) (sl_small (by simp))) hpic)) ea_nil)) fun P' R' h => ⟨g, p, 5, 5, rfl, hT, hF.slash, hgn, h9, .inl ⟨fun M hM => by
          obtain ⟨_, t', h1, h2⟩ := htold M hM
          exact ⟨t', h1, by omega⟩, fun M t' hM ht => by
          obtain ⟨_, t2, h1, h2⟩ := htold M hM
          rw [h1] at ht
          cases ht
          exact h _ ⟨_, ⟨t', ftree_dep h1, by omega, rfl⟩, rfl⟩⟩⟩) (tg_pair 9 10 (by decide)) (fun z hz => ?_) (pg2 9 10 (pgn 9 sc_law_corner.nd) (pgn 10 sc_law_corner.nd))
      obtain ⟨t', hz1, hz2, rfl⟩ := hz
      refine st_if (k := false) (et_eq (et_cmp o_gt (ev_var (x := (n : Int)) 6) ev_int) (decide_eq_false (by omega))) (fun h => nomatch h) (fun _ => st_nil ?_)
      exact st_retV (x := true) (ev_eq (y := true) (ev_and (ev_cmp (o_eqD (α := List Bool) (x := []) (y := []) hr (fun _ _ => trivial) (fun _ _ => trivial)) (ev_var (x := ([] : List Bool)) 10) (ev_of_en (en_nil Bool))) fun _ => ev_and2 (ev_isi (α := Tup Dy) (x := Tup.mk (Dy.i t'.num :: t'.subs.map Tr.d)) "tuple" true T.b_isinstance T.b_tuple (ev_tupTr (t := t') (ev_un (ev_var (x := (some t' : Option Tr)) 9)))) fun _ => ev_cmp o_eq (ev_call (x := (t'.size : Int)) (ok_law_numbers T 60) (hr.mono (by decide)) (ea_cons (x := t') (ev_un (ev_var (x := (some t' : Option Tr)) 9)) ea_nil) fun P R h => ⟨t', rfl, by omega, h⟩) (ev_bin o_add ev_int (ev_var (x := (n : Int)) 6))) (by rw [hz2]; simp)) hq
    · refine st_asgEx (G := fun z : Option Tr × List Bool => z = (none, [true, false, false, false])) (bind := fun z Γ => (Γ.set 9 (.val repOpt z.1)).set 10 (.val repList z.2)) (ex_call (ok_law_asked T) (hr.mono (by decide)) (ea_cons (x := g) (ev_var 8) (ea_cons (x := p) (ev_of_en (en_eq (en_addL (xs := [up]) (ys := List.replicate 4 (List.replicate 5 k0)) (ev_of_en (en_lst (es_cons (x := up) (ev_var 7) es_nil))) (ev_of_en (en_rep (xs := [(List.replicate 5 k0 : Tx)]) (n := 4) (en_lst (es_cons (x := (List.replicate 5 k0 : Tx)) (ev_bin (o_mulT (x := ([k0] : Tx)) (n := 5) (by simp) (by decide) (by decide)) (ev_ixL (xs := onesT [k0, k1]) (ev_var 1) ev_int hs0) ev_int) es_nil)) ev_int (by decide) (by decide) (sl_small (by simp)))) (sl_small (by simp))) hpic)) ea_nil)) fun P' R' h => ⟨g, p, 5, 5, rfl, hT, hF.slash, hgn, h9, .inr ⟨(fun M t' hM ht => by
          obtain ⟨_, t2, h1, h2⟩ := htold M hM
          rw [h1] at ht
          cases ht
          omega), h _ ⟨_, rfl, rfl⟩⟩⟩) (tg_pair 9 10 (by decide)) (fun z hz => ?_) (pg2 9 10 (pgn 9 sc_law_corner.nd) (pgn 10 sc_law_corner.nd))
      subst hz
      refine st_if (k := true) (et_eq (et_cmp o_gt (ev_var (x := (n : Int)) 6) ev_int) (decide_eq_true (by omega))) (fun _ => ?_) (fun h => nomatch h)
      exact st_retV (x := true) (ev_eq (y := true) (ev_and2 (ev_cmp (o_isO (α := Tr) (x := none)) (ev_var (x := (none : Option Tr)) 9) ev_non) fun _ => ev_cmp (o_eqD (α := List Bool) (x := [true, false, false, false]) (y := [true, false, false, false]) hr (fun _ _ => trivial) (fun _ _ => trivial)) (ev_var (x := [true, false, false, false]) 10) (ev_of_en (en_lst (es_cons ev_bl (es_cons ev_bl (es_cons ev_bl (es_cons ev_bl es_nil))))))) (by simp)) hq
end
local macro_rules | `(tactic| walk_at "le") => `(tactic| repeat (first | exact le_nil | refine le_cons ?_ | refine le_no ?_))
noncomputable def signs27S : Tw.Spec := fun A P _ => ∃ (c m : Int), A = [vl c, vl m] ∧ 1 ≤ m ∧ m ≤ 4 ∧ ∀ x : Tx, signsOk x = true → x.length = m.toNat → P (rn (onesT x))
section
variable {P : Program} {w : World} {K : PySem.W.Frag} {mg : Str → Option Value} {base : Heap}
theorem ok_law_signs27 (T : Txt K mg) : Has P w K mg base 1 "_law_signs" ["_law_cell_here", "_law_many"] signs27S := by
  refine Has.of (k := 0) T.f_law_signs sc_law_signs (fun A Q R ⟨c, m, e, _⟩ => by rw [e]; rfl) fun f cdv A outer s0 H E hr Γ Q R ⟨c, m, e, hm1, hm4, hq⟩ => ?_
  subst e
  have a1 := Int.emod_nonneg (c / 26) (by decide : (6 : Int) ≠ 0)
  have a2 := Int.emod_lt_of_pos (c / 26) (by decide : (0 : Int) < 6)
  have a5 := Int.emod_nonneg c (by decide : (26 : Int) ≠ 0)
  have a6 := Int.emod_lt_of_pos c (by decide : (0 : Int) < 26)
  refine st_set 2 (x := smallTx) (ev_str "abcdefghijklmnopqrstuvwxyz") ?_ sc_law_signs.nd
  refine st_set 3 (x := 1 + 2 * (c / 26 % 6)) (ev_bin o_add ev_int (ev_bin (o_mul mulL) ev_int (ev_bin (o_mod (by decide)) (ev_bin (o_div divK) (ev_var 0) ev_int) ev_int))) ?_ sc_law_signs.nd
  have habc : ∀ m, m < 26 → smallTx[m]? = some (97 + m) := by decide +kernel
  refine st_retE (xs := onesT ((rng 0 m.toNat).map fun k => 97 + ((c % 26 + (1 + 2 * (c / 26 % 6)) * k) % 26).toNat)) (en_eq (en_lc (α := Int) (β := Tx) (own := [("_law_k", 4)]) (f := fun k => ([97 + ((c % 26 + (1 + 2 * (c / 26 % 6)) * k) % 26).toNat] : Tx)) (src_range T.b_range (ev_var 1) (by omega) (by omega)) (tg_name 4) (fun _ _ _ _ _ => pgn 4 sc_law_signs.nd)
    (fun k hk _ _ _ _ _ => ev_ixS (x := smallTx) (ev_var 2) (ev_bin (o_mod (by decide)) (ev_bin o_add (ev_bin (o_mod (by decide)) (ev_var 0) ev_int) (ev_bin (o_mul (x := 1 + 2 * (c / 26 % 6)) (y := k) (.inl ⟨by omega, by omega⟩)) (ev_var 3) (ev_var 4))) ev_int) ?_ (sl_small (by decide))) sc_law_signs.nd (ok := bk_law_signs (by decide +kernel)) (hz := by rw [rng_len]; exact sl_small (by omega))) (by unfold onesT; rw [List.map_map]; rfl)) (hq _ ?_ (by rw [List.length_map, rng_len]))
  · have b1 := Int.emod_nonneg (c % 26 + (1 + 2 * (c / 26 % 6)) * k) (by decide : (26 : Int) ≠ 0)
    have b2 := Int.emod_lt_of_pos (c % 26 + (1 + 2 * (c / 26 % 6)) * k) (by decide : (0 : Int) < 26)
    have := atI_nat (habc ((c % 26 + (1 + 2 * (c / 26 % 6)) * k) % 26).toNat (by omega))
    rwa [show ((((c % 26 + (1 + 2 * (c / 26 % 6)) * k) % 26).toNat : Nat) : Int) = (c % 26 + (1 + 2 * (c / 26 % 6)) * k) % 26 by omega] at this
  · refine signs_good (c % 26).toNat (c / 26 % 6).toNat m.toNat (by omega) (by omega) (by omega) (by omega) ?_
    unfold rng
    rw [List.map_map]
    refine List.map_congr_left fun k hk => ?_
    have hk4 : k < 4 := by have := List.mem_range.mp hk; omega
    show 97 + ((c % 26 + (1 + 2 * (c / 26 % 6)) * (0 + (k : Int))) % 26).toNat = 97 + ((c % 26).toNat + k * (1 + 2 * (c / 26 % 6).toNat)) % 26
    obtain ⟨a, ha⟩ : ∃ a : Nat, c % 26 = (a : Int) := ⟨(c % 26).toNat, by omega⟩
    obtain ⟨st, hst⟩ : ∃ s : Nat, c / 26 % 6 = (s : Int) := ⟨(c / 26 % 6).toNat, by omega⟩
    rw [ha, hst, Int.toNat_natCast, Int.toNat_natCast]
    rcases (by omega : k = 0 ∨ k = 1 ∨ k = 2 ∨ k = 3) with rfl | rfl | rfl | rfl <;> omega
theorem body_law (T : Txt K mg) : BodyOk P w K mg base 94 "law" s_law N_law ["_law_script"] lawS := by
  intro f cdv A outer s0 H E hr Γ Q R ⟨s, e, hs, hq⟩
  subst e
  refine st_setEx 1 (i := repList) (G := fun ys : List Tx => ∃ x, (signsOk x = true ∧ x.length = 2) ∧ ys = onesT x) (exv_of_exn (ex_call (ok_law_signs27 T) (hr.mono (by decide)) (ea_cons (x := lawCell s.l 0) (ev_call (x := lawCell s.l 0) (ok_law_cell T) (hr.mono (by decide)) (ea_cons (ev_var 0) (ea_cons (x := (0 : Int)) ev_int ea_nil)) fun P R h => ⟨s, 0, rfl, hs, by decide, h⟩) (ea_cons (x := (2 : Int)) ev_int ea_nil)) fun P' R' h => ⟨_, _, rfl, by decide, by decide, fun x hx hl => h _ ⟨_, ⟨x, ⟨hx, hl⟩, rfl⟩, rfl⟩⟩)) (fun ys hys => ?_) sc_law.nd
  obtain ⟨x, ⟨hx, hl⟩, rfl⟩ := hys
  obtain ⟨k0, k1, rfl⟩ : ∃ k0 k1, x = [k0, k1] := by
    match x, hl with
    | [a, b], _ => exact ⟨a, b, rfl⟩
  have hxx := hx
  unfold signsOk at hxx
  simp only [Bool.and_eq_true, decide_eq_true_eq, List.all_eq_true] at hxx
  have hne : k1 ≠ k0 := fun h => by
    have := hxx.2.1
    rw [h] at this
    simp at this
  have hs0 : atI (onesT [k0, k1]) (0 : Int) = some ([k0] : Tx) := atI_nat (xs := onesT [k0, k1]) (j := 0) rfl
  have hk0 : k0 ∈ smallTx := hxx.2.2 k0 (List.mem_cons_self ..)
  refine st_if (et_cmp o_lt (ev_bin (o_mod (by decide)) (ev_bin (o_div divK) (ev_call (x := lawCell s.l 0) (ok_law_cell T) (hr.mono (by decide)) (ea_cons (ev_var 0) (ea_cons (x := (0 : Int)) ev_int ea_nil)) fun P R h => ⟨s, 0, rfl, hs, by decide, h⟩) ev_int) ev_int) ev_int) (fun _ => ?_) (fun _ => st_nil ?_)
  · exact st_retV (x := true) (ev_call (ok_law_line T) (hr.mono (by decide)) (ea_cons (x := s) (ev_var 0) (ea_cons (x := ([k0] : Tx)) (ev_ixL (xs := onesT [k0, k1]) (ev_var 1) ev_int hs0) ea_nil)) fun P R h => ⟨s, k0, rfl, hs, hk0, h⟩) hq
  refine st_if (et_cmp o_eq (ev_bin (o_mod (by decide)) (ev_bin (o_div divK) (ev_call (x := lawCell s.l 0) (ok_law_cell T) (hr.mono (by decide)) (ea_cons (ev_var 0) (ea_cons (x := (0 : Int)) ev_int ea_nil)) fun P R h => ⟨s, 0, rfl, hs, by decide, h⟩) ev_int) ev_int) ev_int) (fun _ => ?_) (fun _ => st_nil ?_)
  · exact st_retV (x := true) (ev_call (ok_law_corner T) (hr.mono (by decide)) (ea_cons (x := s) (ev_var 0) (ea_cons (x := onesT [k0, k1]) (ev_var 1) ea_nil)) fun P R h => ⟨s, k0, k1, rfl, hs, hne, hx, h⟩) hq
  · exact st_retV (x := true) (ev_call (ok_law_sheet T) (hr.mono (by decide)) (ea_cons (x := s) (ev_var 0) (ea_cons (x := ([k0] : Tx)) (ev_ixL (xs := onesT [k0, k1]) (ev_var 1) ev_int hs0) ea_nil)) fun P R h => ⟨s, k0, rfl, hs, hk0, h⟩) hq
end
theorem ar1 {P : List Value → Prop} (h : ∀ a0, P [a0]) (us : List Value) (hl : us.length = 1) : P us := match us, hl with | [a0], _ => h a0
theorem ar2 {P : List Value → Prop} (h : ∀ a0 a1, P [a0, a1]) (us : List Value) (hl : us.length = 2) : P us := match us, hl with | [a0, a1], _ => h a0 a1
theorem ar3 {P : List Value → Prop} (h : ∀ a0 a1 a2, P [a0, a1, a2]) (us : List Value) (hl : us.length = 3) : P us := match us, hl with | [a0, a1, a2], _ => h a0 a1 a2
theorem ar4 {P : List Value → Prop} (h : ∀ a0 a1 a2 a3, P [a0, a1, a2, a3]) (us : List Value) (hl : us.length = 4) : P us := match us, hl with | [a0, a1, a2, a3], _ => h a0 a1 a2 a3
theorem ar5 {P : List Value → Prop} (h : ∀ a0 a1 a2 a3 a4, P [a0, a1, a2, a3, a4]) (us : List Value) (hl : us.length = 5) : P us := match us, hl with | [a0, a1, a2, a3, a4], _ => h a0 a1 a2 a3 a4
theorem df_of {K : PySem.W.Frag} {h : Heap} {mg : Str → Option Value} {n : Str} {st : Stmt} {ps : List Str} {f : Addr} {oc : Value} {od an : Option Addr} {osl : Array (Option Value)} {kV doc pm cdv ct : Value} (X : K.In h) (G : h.Ns mainGlobals mg) (a : PySem.W.nsIn K mainGlobals n = some (some (.ref f))) (l : K.lookup f = some ⟨oc, od, .func (PySem.W.fnOf n n (defArgs st) (defBody st) (defScope st) .none kV doc pm an cdv ct), osl⟩)
    (c : PySem.W.codeIn K cdv n = true) (k : PySem.W.keepIn K (.ref f) = true)
    (hb : ∀ (kV doc pm : Value) (an : Option Addr) (cdv ct : Value) (us : List Value), us.length = ps.length → bindArgs (PySem.W.fnOf n n (defArgs st) (defBody st) (defScope st) .none kV doc pm an cdv ct) ⟨us, []⟩ = pure (ps.zip us)) : Df K mg n st ps :=
  ⟨f, _, fun_mk l c k, (fun_mk (st := st) l c k).binds hb, PySem.W.mg_of X G a⟩
theorem txt_mk {K : PySem.W.Frag} {h : Heap} {mg : Str → Option Value} (X : K.In h) (G : h.Ns mainGlobals mg)
    (zb_ValueError : PySem.W.nsIn K mainGlobals "ValueError" = some none)
    (zb_all : PySem.W.nsIn K mainGlobals "all" = some none)
    (zb_bool : PySem.W.nsIn K mainGlobals "bool" = some none)
    (zb_enumerate : PySem.W.nsIn K mainGlobals "enumerate" = some none)
    (zb_int : PySem.W.nsIn K mainGlobals "int" = some none)
    (zb_isinstance : PySem.W.nsIn K mainGlobals "isinstance" = some none)
    (zb_len : PySem.W.nsIn K mainGlobals "len" = some none)
    (zb_list : PySem.W.nsIn K mainGlobals "list" = some none)
    (zb_max : PySem.W.nsIn K mainGlobals "max" = some none)
    (zb_range : PySem.W.nsIn K mainGlobals "range" = some none)
    (zb_reversed : PySem.W.nsIn K mainGlobals "reversed" = some none)
    (zb_set : PySem.W.nsIn K mainGlobals "set" = some none)
    (zb_sorted : PySem.W.nsIn K mainGlobals "sorted" = some none)
    (zb_str : PySem.W.nsIn K mainGlobals "str" = some none)
    (zb_tuple : PySem.W.nsIn K mainGlobals "tuple" = some none)
    (zb_zip : PySem.W.nsIn K mainGlobals "zip" = some none)
    {t_MOST : Tok} (zc_MOST : PySem.W.nsIn K mainGlobals "MOST" = some (some (.int 6 t_MOST)))
    {t_MIRROR : Tok} (zc_MIRROR : PySem.W.nsIn K mainGlobals "MIRROR" = some (some (.int 4 t_MIRROR)))
    {t_CAPITALS : Tok} (zc_CAPITALS : PySem.W.nsIn K mainGlobals "CAPITALS" = some (some (.str (Str.ofString "ABCDEFGHIJKLMNOPQRSTUVWXYZ") t_CAPITALS)))
    {t_SMALL : Tok} (zc_SMALL : PySem.W.nsIn K mainGlobals "SMALL" = some (some (.str (Str.ofString "abcdefghijklmnopqrstuvwxyz") t_SMALL)))
    {t_MOST_LETTERS : Tok} (zc_MOST_LETTERS : PySem.W.nsIn K mainGlobals "MOST_LETTERS" = some (some (.int 4 t_MOST_LETTERS)))
    {t_MOST_COST : Tok} (zc_MOST_COST : PySem.W.nsIn K mainGlobals "MOST_COST" = some (some (.int 9 t_MOST_COST)))
    {t_MOST_NUMBERS : Tok} (zc_MOST_NUMBERS : PySem.W.nsIn K mainGlobals "MOST_NUMBERS" = some (some (.int 200 t_MOST_NUMBERS)))
    {t_MOST_WITHIN : Tok} (zc_MOST_WITHIN : PySem.W.nsIn K mainGlobals "MOST_WITHIN" = some (some (.int 60 t_MOST_WITHIN)))
    {t_MOST_SIGNS : Tok} (zc_MOST_SIGNS : PySem.W.nsIn K mainGlobals "MOST_SIGNS" = some (some (.int 4 t_MOST_SIGNS)))
    {t_MOST_RULES : Tok} (zc_MOST_RULES : PySem.W.nsIn K mainGlobals "MOST_RULES" = some (some (.int 24 t_MOST_RULES)))
    {t_MOST_NAMES : Tok} (zc_MOST_NAMES : PySem.W.nsIn K mainGlobals "MOST_NAMES" = some (some (.int 8 t_MOST_NAMES)))
    (xn : PySem.W.specialIn K (.builtin "object.__class__") "__get__" = some (some (.builtin "getset_descriptor.__get__")))
    (xq : PySem.W.takesIn K (.builtin "object.__class__") = some true)
    {C_QuiltError : Addr}
    (xa_QuiltError : PySem.W.nsIn K mainGlobals "QuiltError" = some (some (.ref C_QuiltError)))
    (xk_QuiltError : PySem.W.keepIn K (.ref C_QuiltError) = true)
    (xt_QuiltError : PySem.W.typeIn K (.ref C_QuiltError) = some (.type "type"))
    (xg_QuiltError : PySem.W.findIn K (.ref C_QuiltError) "__getattribute__" = some (some (.builtin "BaseException.__getattribute__")))
    (xh_QuiltError : PySem.W.findIn K (.ref C_QuiltError) "__getattr__" = some none)
    (xs_QuiltError : PySem.W.subIn K (.ref C_QuiltError) (.type "BaseException") = some true)
    (xd_QuiltError : PySem.W.hasDictIn K C_QuiltError = true)
    (xc_QuiltError : PySem.W.findIn K (.ref C_QuiltError) "__class__" = some (some (.builtin "object.__class__")))
    (xm_QuiltError : PySem.W.mroIn K C_QuiltError (.type "object") = some true)
    {C_NoFit : Addr}
    (xa_NoFit : PySem.W.nsIn K mainGlobals "NoFit" = some (some (.ref C_NoFit)))
    (xk_NoFit : PySem.W.keepIn K (.ref C_NoFit) = true)
    (xt_NoFit : PySem.W.typeIn K (.ref C_NoFit) = some (.type "type"))
    (xg_NoFit : PySem.W.findIn K (.ref C_NoFit) "__getattribute__" = some (some (.builtin "BaseException.__getattribute__")))
    (xh_NoFit : PySem.W.findIn K (.ref C_NoFit) "__getattr__" = some none)
    (xs_NoFit : PySem.W.subIn K (.ref C_NoFit) (.type "BaseException") = some true)
    (xd_NoFit : PySem.W.hasDictIn K C_NoFit = true)
    (xc_NoFit : PySem.W.findIn K (.ref C_NoFit) "__class__" = some (some (.builtin "object.__class__")))
    (xm_NoFit : PySem.W.mroIn K C_NoFit (.type "object") = some true)
    {C_NoRule : Addr}
    (xa_NoRule : PySem.W.nsIn K mainGlobals "NoRule" = some (some (.ref C_NoRule)))
    (xk_NoRule : PySem.W.keepIn K (.ref C_NoRule) = true)
    (xt_NoRule : PySem.W.typeIn K (.ref C_NoRule) = some (.type "type"))
    (xg_NoRule : PySem.W.findIn K (.ref C_NoRule) "__getattribute__" = some (some (.builtin "BaseException.__getattribute__")))
    (xh_NoRule : PySem.W.findIn K (.ref C_NoRule) "__getattr__" = some none)
    (xs_NoRule : PySem.W.subIn K (.ref C_NoRule) (.type "BaseException") = some true)
    (xd_NoRule : PySem.W.hasDictIn K C_NoRule = true)
    (xc_NoRule : PySem.W.findIn K (.ref C_NoRule) "__class__" = some (some (.builtin "object.__class__")))
    (xm_NoRule : PySem.W.mroIn K C_NoRule (.type "object") = some true)
    {C_NoGrammar : Addr}
    (xa_NoGrammar : PySem.W.nsIn K mainGlobals "NoGrammar" = some (some (.ref C_NoGrammar)))
    (xk_NoGrammar : PySem.W.keepIn K (.ref C_NoGrammar) = true)
    (xt_NoGrammar : PySem.W.typeIn K (.ref C_NoGrammar) = some (.type "type"))
    (xg_NoGrammar : PySem.W.findIn K (.ref C_NoGrammar) "__getattribute__" = some (some (.builtin "BaseException.__getattribute__")))
    (xh_NoGrammar : PySem.W.findIn K (.ref C_NoGrammar) "__getattr__" = some none)
    (xs_NoGrammar : PySem.W.subIn K (.ref C_NoGrammar) (.type "BaseException") = some true)
    (xd_NoGrammar : PySem.W.hasDictIn K C_NoGrammar = true)
    (xc_NoGrammar : PySem.W.findIn K (.ref C_NoGrammar) "__class__" = some (some (.builtin "object.__class__")))
    (xm_NoGrammar : PySem.W.mroIn K C_NoGrammar (.type "object") = some true)
    {C_NoName : Addr}
    (xa_NoName : PySem.W.nsIn K mainGlobals "NoName" = some (some (.ref C_NoName)))
    (xk_NoName : PySem.W.keepIn K (.ref C_NoName) = true)
    (xt_NoName : PySem.W.typeIn K (.ref C_NoName) = some (.type "type"))
    (xg_NoName : PySem.W.findIn K (.ref C_NoName) "__getattribute__" = some (some (.builtin "BaseException.__getattribute__")))
    (xh_NoName : PySem.W.findIn K (.ref C_NoName) "__getattr__" = some none)
    (xs_NoName : PySem.W.subIn K (.ref C_NoName) (.type "BaseException") = some true)
    (xd_NoName : PySem.W.hasDictIn K C_NoName = true)
    (xc_NoName : PySem.W.findIn K (.ref C_NoName) "__class__" = some (some (.builtin "object.__class__")))
    (xm_NoName : PySem.W.mroIn K C_NoName (.type "object") = some true)
    {C_TooMany : Addr}
    (xa_TooMany : PySem.W.nsIn K mainGlobals "TooMany" = some (some (.ref C_TooMany)))
    (xk_TooMany : PySem.W.keepIn K (.ref C_TooMany) = true)
    (xt_TooMany : PySem.W.typeIn K (.ref C_TooMany) = some (.type "type"))
    (xg_TooMany : PySem.W.findIn K (.ref C_TooMany) "__getattribute__" = some (some (.builtin "BaseException.__getattribute__")))
    (xh_TooMany : PySem.W.findIn K (.ref C_TooMany) "__getattr__" = some none)
    (xs_TooMany : PySem.W.subIn K (.ref C_TooMany) (.type "BaseException") = some true)
    (xd_TooMany : PySem.W.hasDictIn K C_TooMany = true)
    (xc_TooMany : PySem.W.findIn K (.ref C_TooMany) "__class__" = some (some (.builtin "object.__class__")))
    (xm_TooMany : PySem.W.mroIn K C_TooMany (.type "object") = some true)
    {C_NoNumber : Addr}
    (xa_NoNumber : PySem.W.nsIn K mainGlobals "NoNumber" = some (some (.ref C_NoNumber)))
    (xk_NoNumber : PySem.W.keepIn K (.ref C_NoNumber) = true)
    (xt_NoNumber : PySem.W.typeIn K (.ref C_NoNumber) = some (.type "type"))
    (xg_NoNumber : PySem.W.findIn K (.ref C_NoNumber) "__getattribute__" = some (some (.builtin "BaseException.__getattribute__")))
    (xh_NoNumber : PySem.W.findIn K (.ref C_NoNumber) "__getattr__" = some none)
    (xs_NoNumber : PySem.W.subIn K (.ref C_NoNumber) (.type "BaseException") = some true)
    (xd_NoNumber : PySem.W.hasDictIn K C_NoNumber = true)
    (xc_NoNumber : PySem.W.findIn K (.ref C_NoNumber) "__class__" = some (some (.builtin "object.__class__")))
    (xm_NoNumber : PySem.W.mroIn K C_NoNumber (.type "object") = some true)
    (xp_NoFit : PySem.W.excIn K C_NoFit [.type "ValueError", .type "Exception", .type "BaseException", .type "object"] "ValueError.__new__" = true)
    (xp_NoRule : PySem.W.excIn K C_NoRule [.type "ValueError", .type "Exception", .type "BaseException", .type "object"] "ValueError.__new__" = true)
    (xp_NoName : PySem.W.excIn K C_NoName [.type "ValueError", .type "Exception", .type "BaseException", .type "object"] "ValueError.__new__" = true)
    (xp_TooMany : PySem.W.excIn K C_TooMany [.type "ValueError", .type "Exception", .type "BaseException", .type "object"] "ValueError.__new__" = true)
    {nm_NoGrammar qn_NoGrammar : Str} {NN_NoGrammar fI_NoGrammar : Addr} {bs_NoGrammar bm_NoGrammar : List Value} {sn_NoGrammar : List Str} {su_NoGrammar : List Value} {ab_NoGrammar : Bool} {col_NoGrammar : _} {dd_NoGrammar : Option Addr} {k0_NoGrammar k1_NoGrammar k2_NoGrammar k3_NoGrammar k5_NoGrammar : Option Value}
    (xl_NoGrammar : K.lookup C_NoGrammar = some (excClassObj nm_NoGrammar qn_NoGrammar C_NoGrammar NN_NoGrammar bs_NoGrammar bm_NoGrammar true sn_NoGrammar su_NoGrammar ab_NoGrammar col_NoGrammar dd_NoGrammar k0_NoGrammar k1_NoGrammar k2_NoGrammar k3_NoGrammar k5_NoGrammar "ValueError.__new__"))
    (xv_NoGrammar : PySem.HandSPX.refsVE bm_NoGrammar = true)
    (xw_NoGrammar : PySem.W.findIn K (.ref C_NoGrammar) "__setattr__" = some (some (.builtin "object.__setattr__")))
    (xf_NoGrammar : PySem.W.findIn K (.ref C_NoGrammar) "why" = some none)
    (xi_NoGrammar : PySem.W.findIn K (.ref C_NoGrammar) "__init__" = some (some (.ref fI_NoGrammar)))
    (xj_NoGrammar : PySem.W.typeIn K (.ref fI_NoGrammar) = some (.type "function"))
    {od_iNoGrammar an_iNoGrammar : Option Addr} {sl_iNoGrammar : Array (Option Value)} {oc_iNoGrammar kV_iNoGrammar dc_iNoGrammar pm_iNoGrammar cd_iNoGrammar ct_iNoGrammar : Value}
    (xo_NoGrammar : K.lookup fI_NoGrammar = some ⟨oc_iNoGrammar, od_iNoGrammar, .func (PySem.W.fnOf "__init__" "NoGrammar.__init__" (defArgs s_NoGrammar_init) (defBody s_NoGrammar_init) (defScope s_NoGrammar_init) .none kV_iNoGrammar dc_iNoGrammar pm_iNoGrammar an_iNoGrammar cd_iNoGrammar ct_iNoGrammar), sl_iNoGrammar⟩)
    (xu_NoGrammar : PySem.W.codeIn K cd_iNoGrammar "NoGrammar.__init__" = true)
    (xz_NoGrammar : PySem.W.keepIn K (.ref fI_NoGrammar) = true)
    (qs_QuiltError : PySem.W.specialIn K (.ref C_QuiltError) "__getattribute__" = some (some (.builtin "type.__getattribute__")))
    (qr_QuiltError : PySem.W.readsIn K C_QuiltError (.type "type") = true)
    (qf_QuiltError : PySem.W.findCls K (.ref C_QuiltError) (.type "type") "__init__" = some (.val (.builtin "ValueError.__init__")))
    (y_NoFit_QuiltError : PySem.W.subIn K (.ref C_NoFit) (.ref C_QuiltError) = some true)
    (y_NoFit_TooMany : PySem.W.subIn K (.ref C_NoFit) (.ref C_TooMany) = some false)
    (d_NoFit_TooMany : ¬ C_NoFit = C_TooMany)
    (y_NoFit_NoFit : PySem.W.subIn K (.ref C_NoFit) (.ref C_NoFit) = some true)
    (y_NoFit_NoName : PySem.W.subIn K (.ref C_NoFit) (.ref C_NoName) = some false)
    (d_NoFit_NoName : ¬ C_NoFit = C_NoName)
    (y_NoFit_NoNumber : PySem.W.subIn K (.ref C_NoFit) (.ref C_NoNumber) = some false)
    (d_NoFit_NoNumber : ¬ C_NoFit = C_NoNumber)
    (y_NoRule_QuiltError : PySem.W.subIn K (.ref C_NoRule) (.ref C_QuiltError) = some true)
    (y_NoRule_TooMany : PySem.W.subIn K (.ref C_NoRule) (.ref C_TooMany) = some false)
    (d_NoRule_TooMany : ¬ C_NoRule = C_TooMany)
    (y_NoRule_NoFit : PySem.W.subIn K (.ref C_NoRule) (.ref C_NoFit) = some false)
    (d_NoRule_NoFit : ¬ C_NoRule = C_NoFit)
    (y_NoRule_NoName : PySem.W.subIn K (.ref C_NoRule) (.ref C_NoName) = some false)
    (d_NoRule_NoName : ¬ C_NoRule = C_NoName)
    (y_NoRule_NoNumber : PySem.W.subIn K (.ref C_NoRule) (.ref C_NoNumber) = some false)
    (d_NoRule_NoNumber : ¬ C_NoRule = C_NoNumber)
    (y_NoName_QuiltError : PySem.W.subIn K (.ref C_NoName) (.ref C_QuiltError) = some true)
    (y_NoName_TooMany : PySem.W.subIn K (.ref C_NoName) (.ref C_TooMany) = some false)
    (d_NoName_TooMany : ¬ C_NoName = C_TooMany)
    (y_NoName_NoFit : PySem.W.subIn K (.ref C_NoName) (.ref C_NoFit) = some false)
    (d_NoName_NoFit : ¬ C_NoName = C_NoFit)
    (y_NoName_NoName : PySem.W.subIn K (.ref C_NoName) (.ref C_NoName) = some true)
    (y_NoName_NoNumber : PySem.W.subIn K (.ref C_NoName) (.ref C_NoNumber) = some false)
    (d_NoName_NoNumber : ¬ C_NoName = C_NoNumber)
    (y_TooMany_QuiltError : PySem.W.subIn K (.ref C_TooMany) (.ref C_QuiltError) = some true)
    (y_TooMany_TooMany : PySem.W.subIn K (.ref C_TooMany) (.ref C_TooMany) = some true)
    (y_TooMany_NoFit : PySem.W.subIn K (.ref C_TooMany) (.ref C_NoFit) = some false)
    (d_TooMany_NoFit : ¬ C_TooMany = C_NoFit)
    (y_TooMany_NoName : PySem.W.subIn K (.ref C_TooMany) (.ref C_NoName) = some false)
    (d_TooMany_NoName : ¬ C_TooMany = C_NoName)
    (y_TooMany_NoNumber : PySem.W.subIn K (.ref C_TooMany) (.ref C_NoNumber) = some false)
    (d_TooMany_NoNumber : ¬ C_TooMany = C_NoNumber)
    (y_NoGrammar_QuiltError : PySem.W.subIn K (.ref C_NoGrammar) (.ref C_QuiltError) = some true)
    (y_NoGrammar_TooMany : PySem.W.subIn K (.ref C_NoGrammar) (.ref C_TooMany) = some false)
    (d_NoGrammar_TooMany : ¬ C_NoGrammar = C_TooMany)
    (y_NoGrammar_NoFit : PySem.W.subIn K (.ref C_NoGrammar) (.ref C_NoFit) = some false)
    (d_NoGrammar_NoFit : ¬ C_NoGrammar = C_NoFit)
    (y_NoGrammar_NoName : PySem.W.subIn K (.ref C_NoGrammar) (.ref C_NoName) = some false)
    (d_NoGrammar_NoName : ¬ C_NoGrammar = C_NoName)
    (y_NoGrammar_NoNumber : PySem.W.subIn K (.ref C_NoGrammar) (.ref C_NoNumber) = some false)
    (d_NoGrammar_NoNumber : ¬ C_NoGrammar = C_NoNumber)
    {O_Rule : Addr}
    (oa_Rule : PySem.W.nsIn K mainGlobals "Rule" = some (some (.ref O_Rule)))
    (ob_Rule : PySem.W.plainGet K O_Rule Str.empty = true)
    (oc_Rule : PySem.W.hasDictIn K O_Rule = true)
    (od_Rule : PySem.W.plainOver K O_Rule = true)
    (oe_Rule : PySem.W.findIn K (.ref O_Rule) "__setattr__" = some (some (.builtin "object.__setattr__")))
    (of_Rule : PySem.W.makesIn K O_Rule = true)
    (og_Rule : PySem.W.keepIn K (.ref O_Rule) = true)
    (oh_Rule : PySem.W.typeIn K (.ref O_Rule) = some (.type "type"))
    (oi_Rule : PySem.W.findIn K (.ref O_Rule) "__class__" = some (some (.builtin "object.__class__")))
    (oj_Rule : PySem.W.mroIn K O_Rule (.type "object") = some true)
    {O_CellRule : Addr}
    (oa_CellRule : PySem.W.nsIn K mainGlobals "CellRule" = some (some (.ref O_CellRule)))
    (ob_CellRule : PySem.W.plainGet K O_CellRule Str.empty = true)
    (oc_CellRule : PySem.W.hasDictIn K O_CellRule = true)
    (od_CellRule : PySem.W.plainOver K O_CellRule = true)
    (oe_CellRule : PySem.W.findIn K (.ref O_CellRule) "__setattr__" = some (some (.builtin "object.__setattr__")))
    (of_CellRule : PySem.W.makesIn K O_CellRule = true)
    (og_CellRule : PySem.W.keepIn K (.ref O_CellRule) = true)
    (oh_CellRule : PySem.W.typeIn K (.ref O_CellRule) = some (.type "type"))
    (oi_CellRule : PySem.W.findIn K (.ref O_CellRule) "__class__" = some (some (.builtin "object.__class__")))
    (oj_CellRule : PySem.W.mroIn K O_CellRule (.type "object") = some true)
    {O_BesideRule : Addr}
    (oa_BesideRule : PySem.W.nsIn K mainGlobals "BesideRule" = some (some (.ref O_BesideRule)))
    (ob_BesideRule : PySem.W.plainGet K O_BesideRule Str.empty = true)
    (oc_BesideRule : PySem.W.hasDictIn K O_BesideRule = true)
    (od_BesideRule : PySem.W.plainOver K O_BesideRule = true)
    (oe_BesideRule : PySem.W.findIn K (.ref O_BesideRule) "__setattr__" = some (some (.builtin "object.__setattr__")))
    (of_BesideRule : PySem.W.makesIn K O_BesideRule = true)
    (og_BesideRule : PySem.W.keepIn K (.ref O_BesideRule) = true)
    (oh_BesideRule : PySem.W.typeIn K (.ref O_BesideRule) = some (.type "type"))
    (oi_BesideRule : PySem.W.findIn K (.ref O_BesideRule) "__class__" = some (some (.builtin "object.__class__")))
    (oj_BesideRule : PySem.W.mroIn K O_BesideRule (.type "object") = some true)
    {O_AboveRule : Addr}
    (oa_AboveRule : PySem.W.nsIn K mainGlobals "AboveRule" = some (some (.ref O_AboveRule)))
    (ob_AboveRule : PySem.W.plainGet K O_AboveRule Str.empty = true)
    (oc_AboveRule : PySem.W.hasDictIn K O_AboveRule = true)
    (od_AboveRule : PySem.W.plainOver K O_AboveRule = true)
    (oe_AboveRule : PySem.W.findIn K (.ref O_AboveRule) "__setattr__" = some (some (.builtin "object.__setattr__")))
    (of_AboveRule : PySem.W.makesIn K O_AboveRule = true)
    (og_AboveRule : PySem.W.keepIn K (.ref O_AboveRule) = true)
    (oh_AboveRule : PySem.W.typeIn K (.ref O_AboveRule) = some (.type "type"))
    (oi_AboveRule : PySem.W.findIn K (.ref O_AboveRule) "__class__" = some (some (.builtin "object.__class__")))
    (oj_AboveRule : PySem.W.mroIn K O_AboveRule (.type "object") = some true)
    {O_TurnRule : Addr}
    (oa_TurnRule : PySem.W.nsIn K mainGlobals "TurnRule" = some (some (.ref O_TurnRule)))
    (ob_TurnRule : PySem.W.plainGet K O_TurnRule Str.empty = true)
    (oc_TurnRule : PySem.W.hasDictIn K O_TurnRule = true)
    (od_TurnRule : PySem.W.plainOver K O_TurnRule = true)
    (oe_TurnRule : PySem.W.findIn K (.ref O_TurnRule) "__setattr__" = some (some (.builtin "object.__setattr__")))
    (of_TurnRule : PySem.W.makesIn K O_TurnRule = true)
    (og_TurnRule : PySem.W.keepIn K (.ref O_TurnRule) = true)
    (oh_TurnRule : PySem.W.typeIn K (.ref O_TurnRule) = some (.type "type"))
    (oi_TurnRule : PySem.W.findIn K (.ref O_TurnRule) "__class__" = some (some (.builtin "object.__class__")))
    (oj_TurnRule : PySem.W.mroIn K O_TurnRule (.type "object") = some true)
    {O_Grammar : Addr}
    (oa_Grammar : PySem.W.nsIn K mainGlobals "Grammar" = some (some (.ref O_Grammar)))
    (ob_Grammar : PySem.W.plainGet K O_Grammar Str.empty = true)
    (oc_Grammar : PySem.W.hasDictIn K O_Grammar = true)
    (od_Grammar : PySem.W.plainOver K O_Grammar = true)
    (oe_Grammar : PySem.W.findIn K (.ref O_Grammar) "__setattr__" = some (some (.builtin "object.__setattr__")))
    (of_Grammar : PySem.W.makesIn K O_Grammar = true)
    (og_Grammar : PySem.W.keepIn K (.ref O_Grammar) = true)
    (oh_Grammar : PySem.W.typeIn K (.ref O_Grammar) = some (.type "type"))
    (oi_Grammar : PySem.W.findIn K (.ref O_Grammar) "__class__" = some (some (.builtin "object.__class__")))
    (oj_Grammar : PySem.W.mroIn K O_Grammar (.type "object") = some true)
    (na_Rule_name : PySem.W.findIn K (.ref O_Rule) "name" = some none)
    (na_Rule_cost : PySem.W.findIn K (.ref O_Rule) "cost" = some none)
    {g_Rule_init : Addr} {god_Rule_init gan_Rule_init : Option Addr} {gsl_Rule_init : Array (Option Value)} {goc_Rule_init gkV_Rule_init gdc_Rule_init gpm_Rule_init gcd_Rule_init gct_Rule_init : Value}
    (ma_Rule_init : PySem.W.findIn K (.ref O_Rule) "__init__" = some (some (.ref g_Rule_init)))
    (ml_Rule_init : K.lookup g_Rule_init = some ⟨goc_Rule_init, god_Rule_init, .func (PySem.W.fnOf "__init__" "Rule.__init__" (defArgs s_Rule_init) (defBody s_Rule_init) (defScope s_Rule_init) .none gkV_Rule_init gdc_Rule_init gpm_Rule_init gan_Rule_init gcd_Rule_init gct_Rule_init), gsl_Rule_init⟩)
    (mc_Rule_init : PySem.W.codeIn K gcd_Rule_init "Rule.__init__" = true)
    (mk_Rule_init : PySem.W.keepIn K (.ref g_Rule_init) = true)
    (mf_Rule_init : PySem.W.isFn K (.ref g_Rule_init) = true)
    (na_CellRule_sign : PySem.W.findIn K (.ref O_CellRule) "sign" = some none)
    (na_CellRule_name : PySem.W.findIn K (.ref O_CellRule) "name" = some none)
    (na_CellRule_cost : PySem.W.findIn K (.ref O_CellRule) "cost" = some none)
    {g_CellRule_init : Addr} {god_CellRule_init gan_CellRule_init : Option Addr} {gsl_CellRule_init : Array (Option Value)} {goc_CellRule_init gkV_CellRule_init gdc_CellRule_init gpm_CellRule_init gcd_CellRule_init gct_CellRule_init : Value}
    (ma_CellRule_init : PySem.W.findIn K (.ref O_CellRule) "__init__" = some (some (.ref g_CellRule_init)))
    (ml_CellRule_init : K.lookup g_CellRule_init = some ⟨goc_CellRule_init, god_CellRule_init, .func (PySem.W.fnOf "__init__" "CellRule.__init__" (defArgs s_CellRule_init) (defBody s_CellRule_init) (defScope s_CellRule_init) .none gkV_CellRule_init gdc_CellRule_init gpm_CellRule_init gan_CellRule_init gcd_CellRule_init gct_CellRule_init), gsl_CellRule_init⟩)
    (mc_CellRule_init : PySem.W.codeIn K gcd_CellRule_init "CellRule.__init__" = true)
    (mk_CellRule_init : PySem.W.keepIn K (.ref g_CellRule_init) = true)
    (mf_CellRule_init : PySem.W.isFn K (.ref g_CellRule_init) = true)
    {g_CellRule_told : Addr} {god_CellRule_told gan_CellRule_told : Option Addr} {gsl_CellRule_told : Array (Option Value)} {goc_CellRule_told gkV_CellRule_told gdc_CellRule_told gpm_CellRule_told gcd_CellRule_told gct_CellRule_told : Value}
    (ma_CellRule_told : PySem.W.findIn K (.ref O_CellRule) "told" = some (some (.ref g_CellRule_told)))
    (ml_CellRule_told : K.lookup g_CellRule_told = some ⟨goc_CellRule_told, god_CellRule_told, .func (PySem.W.fnOf "told" "CellRule.told" (defArgs s_CellRule_told) (defBody s_CellRule_told) (defScope s_CellRule_told) .none gkV_CellRule_told gdc_CellRule_told gpm_CellRule_told gan_CellRule_told gcd_CellRule_told gct_CellRule_told), gsl_CellRule_told⟩)
    (mc_CellRule_told : PySem.W.codeIn K gcd_CellRule_told "CellRule.told" = true)
    (mk_CellRule_told : PySem.W.keepIn K (.ref g_CellRule_told) = true)
    (mf_CellRule_told : PySem.W.isFn K (.ref g_CellRule_told) = true)
    {g_Rule_parts : Addr} {god_Rule_parts gan_Rule_parts : Option Addr} {gsl_Rule_parts : Array (Option Value)} {goc_Rule_parts gkV_Rule_parts gdc_Rule_parts gpm_Rule_parts gcd_Rule_parts gct_Rule_parts : Value}
    (ma_CellRule_parts : PySem.W.findIn K (.ref O_CellRule) "parts" = some (some (.ref g_Rule_parts)))
    (ml_Rule_parts : K.lookup g_Rule_parts = some ⟨goc_Rule_parts, god_Rule_parts, .func (PySem.W.fnOf "parts" "Rule.parts" (defArgs s_Rule_parts) (defBody s_Rule_parts) (defScope s_Rule_parts) .none gkV_Rule_parts gdc_Rule_parts gpm_Rule_parts gan_Rule_parts gcd_Rule_parts gct_Rule_parts), gsl_Rule_parts⟩)
    (mc_Rule_parts : PySem.W.codeIn K gcd_Rule_parts "Rule.parts" = true)
    (mk_Rule_parts : PySem.W.keepIn K (.ref g_Rule_parts) = true)
    (mf_Rule_parts : PySem.W.isFn K (.ref g_Rule_parts) = true)
    {g_Rule_begun : Addr} {god_Rule_begun gan_Rule_begun : Option Addr} {gsl_Rule_begun : Array (Option Value)} {goc_Rule_begun gkV_Rule_begun gdc_Rule_begun gpm_Rule_begun gcd_Rule_begun gct_Rule_begun : Value}
    (ma_CellRule_begun : PySem.W.findIn K (.ref O_CellRule) "begun" = some (some (.ref g_Rule_begun)))
    (ml_Rule_begun : K.lookup g_Rule_begun = some ⟨goc_Rule_begun, god_Rule_begun, .func (PySem.W.fnOf "begun" "Rule.begun" (defArgs s_Rule_begun) (defBody s_Rule_begun) (defScope s_Rule_begun) .none gkV_Rule_begun gdc_Rule_begun gpm_Rule_begun gan_Rule_begun gcd_Rule_begun gct_Rule_begun), gsl_Rule_begun⟩)
    (mc_Rule_begun : PySem.W.codeIn K gcd_Rule_begun "Rule.begun" = true)
    (mk_Rule_begun : PySem.W.keepIn K (.ref g_Rule_begun) = true)
    (mf_Rule_begun : PySem.W.isFn K (.ref g_Rule_begun) = true)
    (na_BesideRule_one : PySem.W.findIn K (.ref O_BesideRule) "one" = some none)
    (na_BesideRule_other : PySem.W.findIn K (.ref O_BesideRule) "other" = some none)
    (na_BesideRule_name : PySem.W.findIn K (.ref O_BesideRule) "name" = some none)
    (na_BesideRule_cost : PySem.W.findIn K (.ref O_BesideRule) "cost" = some none)
    {g_BesideRule_init : Addr} {god_BesideRule_init gan_BesideRule_init : Option Addr} {gsl_BesideRule_init : Array (Option Value)} {goc_BesideRule_init gkV_BesideRule_init gdc_BesideRule_init gpm_BesideRule_init gcd_BesideRule_init gct_BesideRule_init : Value}
    (ma_BesideRule_init : PySem.W.findIn K (.ref O_BesideRule) "__init__" = some (some (.ref g_BesideRule_init)))
    (ml_BesideRule_init : K.lookup g_BesideRule_init = some ⟨goc_BesideRule_init, god_BesideRule_init, .func (PySem.W.fnOf "__init__" "BesideRule.__init__" (defArgs s_BesideRule_init) (defBody s_BesideRule_init) (defScope s_BesideRule_init) .none gkV_BesideRule_init gdc_BesideRule_init gpm_BesideRule_init gan_BesideRule_init gcd_BesideRule_init gct_BesideRule_init), gsl_BesideRule_init⟩)
    (mc_BesideRule_init : PySem.W.codeIn K gcd_BesideRule_init "BesideRule.__init__" = true)
    (mk_BesideRule_init : PySem.W.keepIn K (.ref g_BesideRule_init) = true)
    (mf_BesideRule_init : PySem.W.isFn K (.ref g_BesideRule_init) = true)
    {g_BesideRule_parts : Addr} {god_BesideRule_parts gan_BesideRule_parts : Option Addr} {gsl_BesideRule_parts : Array (Option Value)} {goc_BesideRule_parts gkV_BesideRule_parts gdc_BesideRule_parts gpm_BesideRule_parts gcd_BesideRule_parts gct_BesideRule_parts : Value}
    (ma_BesideRule_parts : PySem.W.findIn K (.ref O_BesideRule) "parts" = some (some (.ref g_BesideRule_parts)))
    (ml_BesideRule_parts : K.lookup g_BesideRule_parts = some ⟨goc_BesideRule_parts, god_BesideRule_parts, .func (PySem.W.fnOf "parts" "BesideRule.parts" (defArgs s_BesideRule_parts) (defBody s_BesideRule_parts) (defScope s_BesideRule_parts) .none gkV_BesideRule_parts gdc_BesideRule_parts gpm_BesideRule_parts gan_BesideRule_parts gcd_BesideRule_parts gct_BesideRule_parts), gsl_BesideRule_parts⟩)
    (mc_BesideRule_parts : PySem.W.codeIn K gcd_BesideRule_parts "BesideRule.parts" = true)
    (mk_BesideRule_parts : PySem.W.keepIn K (.ref g_BesideRule_parts) = true)
    (mf_BesideRule_parts : PySem.W.isFn K (.ref g_BesideRule_parts) = true)
    {g_BesideRule_told : Addr} {god_BesideRule_told gan_BesideRule_told : Option Addr} {gsl_BesideRule_told : Array (Option Value)} {goc_BesideRule_told gkV_BesideRule_told gdc_BesideRule_told gpm_BesideRule_told gcd_BesideRule_told gct_BesideRule_told : Value}
    (ma_BesideRule_told : PySem.W.findIn K (.ref O_BesideRule) "told" = some (some (.ref g_BesideRule_told)))
    (ml_BesideRule_told : K.lookup g_BesideRule_told = some ⟨goc_BesideRule_told, god_BesideRule_told, .func (PySem.W.fnOf "told" "BesideRule.told" (defArgs s_BesideRule_told) (defBody s_BesideRule_told) (defScope s_BesideRule_told) .none gkV_BesideRule_told gdc_BesideRule_told gpm_BesideRule_told gan_BesideRule_told gcd_BesideRule_told gct_BesideRule_told), gsl_BesideRule_told⟩)
    (mc_BesideRule_told : PySem.W.codeIn K gcd_BesideRule_told "BesideRule.told" = true)
    (mk_BesideRule_told : PySem.W.keepIn K (.ref g_BesideRule_told) = true)
    (mf_BesideRule_told : PySem.W.isFn K (.ref g_BesideRule_told) = true)
    (ma_BesideRule_begun : PySem.W.findIn K (.ref O_BesideRule) "begun" = some (some (.ref g_Rule_begun)))
    (na_AboveRule_one : PySem.W.findIn K (.ref O_AboveRule) "one" = some none)
    (na_AboveRule_other : PySem.W.findIn K (.ref O_AboveRule) "other" = some none)
    (na_AboveRule_name : PySem.W.findIn K (.ref O_AboveRule) "name" = some none)
    (na_AboveRule_cost : PySem.W.findIn K (.ref O_AboveRule) "cost" = some none)
    {g_AboveRule_init : Addr} {god_AboveRule_init gan_AboveRule_init : Option Addr} {gsl_AboveRule_init : Array (Option Value)} {goc_AboveRule_init gkV_AboveRule_init gdc_AboveRule_init gpm_AboveRule_init gcd_AboveRule_init gct_AboveRule_init : Value}
    (ma_AboveRule_init : PySem.W.findIn K (.ref O_AboveRule) "__init__" = some (some (.ref g_AboveRule_init)))
    (ml_AboveRule_init : K.lookup g_AboveRule_init = some ⟨goc_AboveRule_init, god_AboveRule_init, .func (PySem.W.fnOf "__init__" "AboveRule.__init__" (defArgs s_AboveRule_init) (defBody s_AboveRule_init) (defScope s_AboveRule_init) .none gkV_AboveRule_init gdc_AboveRule_init gpm_AboveRule_init gan_AboveRule_init gcd_AboveRule_init gct_AboveRule_init), gsl_AboveRule_init⟩)
    (mc_AboveRule_init : PySem.W.codeIn K gcd_AboveRule_init "AboveRule.__init__" = true)
    (mk_AboveRule_init : PySem.W.keepIn K (.ref g_AboveRule_init) = true)
    (mf_AboveRule_init : PySem.W.isFn K (.ref g_AboveRule_init) = true)
    {g_AboveRule_parts : Addr} {god_AboveRule_parts gan_AboveRule_parts : Option Addr} {gsl_AboveRule_parts : Array (Option Value)} {goc_AboveRule_parts gkV_AboveRule_parts gdc_AboveRule_parts gpm_AboveRule_parts gcd_AboveRule_parts gct_AboveRule_parts : Value}
    (ma_AboveRule_parts : PySem.W.findIn K (.ref O_AboveRule) "parts" = some (some (.ref g_AboveRule_parts)))
    (ml_AboveRule_parts : K.lookup g_AboveRule_parts = some ⟨goc_AboveRule_parts, god_AboveRule_parts, .func (PySem.W.fnOf "parts" "AboveRule.parts" (defArgs s_AboveRule_parts) (defBody s_AboveRule_parts) (defScope s_AboveRule_parts) .none gkV_AboveRule_parts gdc_AboveRule_parts gpm_AboveRule_parts gan_AboveRule_parts gcd_AboveRule_parts gct_AboveRule_parts), gsl_AboveRule_parts⟩)
    (mc_AboveRule_parts : PySem.W.codeIn K gcd_AboveRule_parts "AboveRule.parts" = true)
    (mk_AboveRule_parts : PySem.W.keepIn K (.ref g_AboveRule_parts) = true)
    (mf_AboveRule_parts : PySem.W.isFn K (.ref g_AboveRule_parts) = true)
    {g_AboveRule_told : Addr} {god_AboveRule_told gan_AboveRule_told : Option Addr} {gsl_AboveRule_told : Array (Option Value)} {goc_AboveRule_told gkV_AboveRule_told gdc_AboveRule_told gpm_AboveRule_told gcd_AboveRule_told gct_AboveRule_told : Value}
    (ma_AboveRule_told : PySem.W.findIn K (.ref O_AboveRule) "told" = some (some (.ref g_AboveRule_told)))
    (ml_AboveRule_told : K.lookup g_AboveRule_told = some ⟨goc_AboveRule_told, god_AboveRule_told, .func (PySem.W.fnOf "told" "AboveRule.told" (defArgs s_AboveRule_told) (defBody s_AboveRule_told) (defScope s_AboveRule_told) .none gkV_AboveRule_told gdc_AboveRule_told gpm_AboveRule_told gan_AboveRule_told gcd_AboveRule_told gct_AboveRule_told), gsl_AboveRule_told⟩)
    (mc_AboveRule_told : PySem.W.codeIn K gcd_AboveRule_told "AboveRule.told" = true)
    (mk_AboveRule_told : PySem.W.keepIn K (.ref g_AboveRule_told) = true)
    (mf_AboveRule_told : PySem.W.isFn K (.ref g_AboveRule_told) = true)
    (ma_AboveRule_begun : PySem.W.findIn K (.ref O_AboveRule) "begun" = some (some (.ref g_Rule_begun)))
    (na_TurnRule_part : PySem.W.findIn K (.ref O_TurnRule) "part" = some none)
    (na_TurnRule_turning : PySem.W.findIn K (.ref O_TurnRule) "turning" = some none)
    (na_TurnRule_name : PySem.W.findIn K (.ref O_TurnRule) "name" = some none)
    (na_TurnRule_cost : PySem.W.findIn K (.ref O_TurnRule) "cost" = some none)
    {g_TurnRule_init : Addr} {god_TurnRule_init gan_TurnRule_init : Option Addr} {gsl_TurnRule_init : Array (Option Value)} {goc_TurnRule_init gkV_TurnRule_init gdc_TurnRule_init gpm_TurnRule_init gcd_TurnRule_init gct_TurnRule_init : Value}
    (ma_TurnRule_init : PySem.W.findIn K (.ref O_TurnRule) "__init__" = some (some (.ref g_TurnRule_init)))
    (ml_TurnRule_init : K.lookup g_TurnRule_init = some ⟨goc_TurnRule_init, god_TurnRule_init, .func (PySem.W.fnOf "__init__" "TurnRule.__init__" (defArgs s_TurnRule_init) (defBody s_TurnRule_init) (defScope s_TurnRule_init) .none gkV_TurnRule_init gdc_TurnRule_init gpm_TurnRule_init gan_TurnRule_init gcd_TurnRule_init gct_TurnRule_init), gsl_TurnRule_init⟩)
    (mc_TurnRule_init : PySem.W.codeIn K gcd_TurnRule_init "TurnRule.__init__" = true)
    (mk_TurnRule_init : PySem.W.keepIn K (.ref g_TurnRule_init) = true)
    (mf_TurnRule_init : PySem.W.isFn K (.ref g_TurnRule_init) = true)
    {g_TurnRule_parts : Addr} {god_TurnRule_parts gan_TurnRule_parts : Option Addr} {gsl_TurnRule_parts : Array (Option Value)} {goc_TurnRule_parts gkV_TurnRule_parts gdc_TurnRule_parts gpm_TurnRule_parts gcd_TurnRule_parts gct_TurnRule_parts : Value}
    (ma_TurnRule_parts : PySem.W.findIn K (.ref O_TurnRule) "parts" = some (some (.ref g_TurnRule_parts)))
    (ml_TurnRule_parts : K.lookup g_TurnRule_parts = some ⟨goc_TurnRule_parts, god_TurnRule_parts, .func (PySem.W.fnOf "parts" "TurnRule.parts" (defArgs s_TurnRule_parts) (defBody s_TurnRule_parts) (defScope s_TurnRule_parts) .none gkV_TurnRule_parts gdc_TurnRule_parts gpm_TurnRule_parts gan_TurnRule_parts gcd_TurnRule_parts gct_TurnRule_parts), gsl_TurnRule_parts⟩)
    (mc_TurnRule_parts : PySem.W.codeIn K gcd_TurnRule_parts "TurnRule.parts" = true)
    (mk_TurnRule_parts : PySem.W.keepIn K (.ref g_TurnRule_parts) = true)
    (mf_TurnRule_parts : PySem.W.isFn K (.ref g_TurnRule_parts) = true)
    {g_TurnRule_told : Addr} {god_TurnRule_told gan_TurnRule_told : Option Addr} {gsl_TurnRule_told : Array (Option Value)} {goc_TurnRule_told gkV_TurnRule_told gdc_TurnRule_told gpm_TurnRule_told gcd_TurnRule_told gct_TurnRule_told : Value}
    (ma_TurnRule_told : PySem.W.findIn K (.ref O_TurnRule) "told" = some (some (.ref g_TurnRule_told)))
    (ml_TurnRule_told : K.lookup g_TurnRule_told = some ⟨goc_TurnRule_told, god_TurnRule_told, .func (PySem.W.fnOf "told" "TurnRule.told" (defArgs s_TurnRule_told) (defBody s_TurnRule_told) (defScope s_TurnRule_told) .none gkV_TurnRule_told gdc_TurnRule_told gpm_TurnRule_told gan_TurnRule_told gcd_TurnRule_told gct_TurnRule_told), gsl_TurnRule_told⟩)
    (mc_TurnRule_told : PySem.W.codeIn K gcd_TurnRule_told "TurnRule.told" = true)
    (mk_TurnRule_told : PySem.W.keepIn K (.ref g_TurnRule_told) = true)
    (mf_TurnRule_told : PySem.W.isFn K (.ref g_TurnRule_told) = true)
    (ma_TurnRule_begun : PySem.W.findIn K (.ref O_TurnRule) "begun" = some (some (.ref g_Rule_begun)))
    (na_Grammar_signs : PySem.W.findIn K (.ref O_Grammar) "signs" = some none)
    (na_Grammar_start : PySem.W.findIn K (.ref O_Grammar) "start" = some none)
    (na_Grammar_kept_rules : PySem.W.findIn K (.ref O_Grammar) "kept_rules" = some none)
    (na_Grammar_kept_names : PySem.W.findIn K (.ref O_Grammar) "kept_names" = some none)
    {g_Grammar_init : Addr} {god_Grammar_init gan_Grammar_init : Option Addr} {gsl_Grammar_init : Array (Option Value)} {goc_Grammar_init gkV_Grammar_init gdc_Grammar_init gpm_Grammar_init gcd_Grammar_init gct_Grammar_init : Value}
    (ma_Grammar_init : PySem.W.findIn K (.ref O_Grammar) "__init__" = some (some (.ref g_Grammar_init)))
    (ml_Grammar_init : K.lookup g_Grammar_init = some ⟨goc_Grammar_init, god_Grammar_init, .func (PySem.W.fnOf "__init__" "Grammar.__init__" (defArgs s_Grammar_init) (defBody s_Grammar_init) (defScope s_Grammar_init) .none gkV_Grammar_init gdc_Grammar_init gpm_Grammar_init gan_Grammar_init gcd_Grammar_init gct_Grammar_init), gsl_Grammar_init⟩)
    (mc_Grammar_init : PySem.W.codeIn K gcd_Grammar_init "Grammar.__init__" = true)
    (mk_Grammar_init : PySem.W.keepIn K (.ref g_Grammar_init) = true)
    (mf_Grammar_init : PySem.W.isFn K (.ref g_Grammar_init) = true)
    {g_Grammar_rules : Addr} {god_Grammar_rules gan_Grammar_rules : Option Addr} {gsl_Grammar_rules : Array (Option Value)} {goc_Grammar_rules gkV_Grammar_rules gdc_Grammar_rules gpm_Grammar_rules gcd_Grammar_rules gct_Grammar_rules : Value}
    (ma_Grammar_rules : PySem.W.findIn K (.ref O_Grammar) "rules" = some (some (.ref g_Grammar_rules)))
    (ml_Grammar_rules : K.lookup g_Grammar_rules = some ⟨goc_Grammar_rules, god_Grammar_rules, .func (PySem.W.fnOf "rules" "Grammar.rules" (defArgs s_Grammar_rules) (defBody s_Grammar_rules) (defScope s_Grammar_rules) .none gkV_Grammar_rules gdc_Grammar_rules gpm_Grammar_rules gan_Grammar_rules gcd_Grammar_rules gct_Grammar_rules), gsl_Grammar_rules⟩)
    (mc_Grammar_rules : PySem.W.codeIn K gcd_Grammar_rules "Grammar.rules" = true)
    (mk_Grammar_rules : PySem.W.keepIn K (.ref g_Grammar_rules) = true)
    (mf_Grammar_rules : PySem.W.isFn K (.ref g_Grammar_rules) = true)
    {g_Grammar_rule : Addr} {god_Grammar_rule gan_Grammar_rule : Option Addr} {gsl_Grammar_rule : Array (Option Value)} {goc_Grammar_rule gkV_Grammar_rule gdc_Grammar_rule gpm_Grammar_rule gcd_Grammar_rule gct_Grammar_rule : Value}
    (ma_Grammar_rule : PySem.W.findIn K (.ref O_Grammar) "rule" = some (some (.ref g_Grammar_rule)))
    (ml_Grammar_rule : K.lookup g_Grammar_rule = some ⟨goc_Grammar_rule, god_Grammar_rule, .func (PySem.W.fnOf "rule" "Grammar.rule" (defArgs s_Grammar_rule) (defBody s_Grammar_rule) (defScope s_Grammar_rule) .none gkV_Grammar_rule gdc_Grammar_rule gpm_Grammar_rule gan_Grammar_rule gcd_Grammar_rule gct_Grammar_rule), gsl_Grammar_rule⟩)
    (mc_Grammar_rule : PySem.W.codeIn K gcd_Grammar_rule "Grammar.rule" = true)
    (mk_Grammar_rule : PySem.W.keepIn K (.ref g_Grammar_rule) = true)
    (mf_Grammar_rule : PySem.W.isFn K (.ref g_Grammar_rule) = true)
    {g_Grammar_names : Addr} {god_Grammar_names gan_Grammar_names : Option Addr} {gsl_Grammar_names : Array (Option Value)} {goc_Grammar_names gkV_Grammar_names gdc_Grammar_names gpm_Grammar_names gcd_Grammar_names gct_Grammar_names : Value}
    (ma_Grammar_names : PySem.W.findIn K (.ref O_Grammar) "names" = some (some (.ref g_Grammar_names)))
    (ml_Grammar_names : K.lookup g_Grammar_names = some ⟨goc_Grammar_names, god_Grammar_names, .func (PySem.W.fnOf "names" "Grammar.names" (defArgs s_Grammar_names) (defBody s_Grammar_names) (defScope s_Grammar_names) .none gkV_Grammar_names gdc_Grammar_names gpm_Grammar_names gan_Grammar_names gcd_Grammar_names gct_Grammar_names), gsl_Grammar_names⟩)
    (mc_Grammar_names : PySem.W.codeIn K gcd_Grammar_names "Grammar.names" = true)
    (mk_Grammar_names : PySem.W.keepIn K (.ref g_Grammar_names) = true)
    (mf_Grammar_names : PySem.W.isFn K (.ref g_Grammar_names) = true)
    {g_Grammar_numbers_of : Addr} {god_Grammar_numbers_of gan_Grammar_numbers_of : Option Addr} {gsl_Grammar_numbers_of : Array (Option Value)} {goc_Grammar_numbers_of gkV_Grammar_numbers_of gdc_Grammar_numbers_of gpm_Grammar_numbers_of gcd_Grammar_numbers_of gct_Grammar_numbers_of : Value}
    (ma_Grammar_numbers_of : PySem.W.findIn K (.ref O_Grammar) "numbers_of" = some (some (.ref g_Grammar_numbers_of)))
    (ml_Grammar_numbers_of : K.lookup g_Grammar_numbers_of = some ⟨goc_Grammar_numbers_of, god_Grammar_numbers_of, .func (PySem.W.fnOf "numbers_of" "Grammar.numbers_of" (defArgs s_Grammar_numbers_of) (defBody s_Grammar_numbers_of) (defScope s_Grammar_numbers_of) .none gkV_Grammar_numbers_of gdc_Grammar_numbers_of gpm_Grammar_numbers_of gan_Grammar_numbers_of gcd_Grammar_numbers_of gct_Grammar_numbers_of), gsl_Grammar_numbers_of⟩)
    (mc_Grammar_numbers_of : PySem.W.codeIn K gcd_Grammar_numbers_of "Grammar.numbers_of" = true)
    (mk_Grammar_numbers_of : PySem.W.keepIn K (.ref g_Grammar_numbers_of) = true)
    (mf_Grammar_numbers_of : PySem.W.isFn K (.ref g_Grammar_numbers_of) = true)
    {g_Grammar_told : Addr} {god_Grammar_told gan_Grammar_told : Option Addr} {gsl_Grammar_told : Array (Option Value)} {goc_Grammar_told gkV_Grammar_told gdc_Grammar_told gpm_Grammar_told gcd_Grammar_told gct_Grammar_told : Value}
    (ma_Grammar_told : PySem.W.findIn K (.ref O_Grammar) "told" = some (some (.ref g_Grammar_told)))
    (ml_Grammar_told : K.lookup g_Grammar_told = some ⟨goc_Grammar_told, god_Grammar_told, .func (PySem.W.fnOf "told" "Grammar.told" (defArgs s_Grammar_told) (defBody s_Grammar_told) (defScope s_Grammar_told) .none gkV_Grammar_told gdc_Grammar_told gpm_Grammar_told gan_Grammar_told gcd_Grammar_told gct_Grammar_told), gsl_Grammar_told⟩)
    (mc_Grammar_told : PySem.W.codeIn K gcd_Grammar_told "Grammar.told" = true)
    (mk_Grammar_told : PySem.W.keepIn K (.ref g_Grammar_told) = true)
    (mf_Grammar_told : PySem.W.isFn K (.ref g_Grammar_told) = true)
    (ia_Rule : PySem.W.specialIn K (.ref O_Rule) "__getattribute__" = some (some (.builtin "type.__getattribute__")))
    (ib_Rule : PySem.W.readsIn K O_Rule (.type "type") = true)
    (ic_Rule : PySem.W.findCls K (.ref O_Rule) (.type "type") "__init__" = some (.val (.ref g_Rule_init)))
    (ou_CellRule_CellRule : PySem.W.subIn K (.ref O_CellRule) (.ref O_CellRule) = some true)
    (ou_CellRule_TurnRule : PySem.W.subIn K (.ref O_CellRule) (.ref O_TurnRule) = some false)
    (ov_CellRule_TurnRule : ¬ O_CellRule = O_TurnRule)
    (ou_CellRule_BesideRule : PySem.W.subIn K (.ref O_CellRule) (.ref O_BesideRule) = some false)
    (ov_CellRule_BesideRule : ¬ O_CellRule = O_BesideRule)
    (ou_BesideRule_CellRule : PySem.W.subIn K (.ref O_BesideRule) (.ref O_CellRule) = some false)
    (ov_BesideRule_CellRule : ¬ O_BesideRule = O_CellRule)
    (ou_BesideRule_TurnRule : PySem.W.subIn K (.ref O_BesideRule) (.ref O_TurnRule) = some false)
    (ov_BesideRule_TurnRule : ¬ O_BesideRule = O_TurnRule)
    (ou_BesideRule_BesideRule : PySem.W.subIn K (.ref O_BesideRule) (.ref O_BesideRule) = some true)
    (ou_AboveRule_CellRule : PySem.W.subIn K (.ref O_AboveRule) (.ref O_CellRule) = some false)
    (ov_AboveRule_CellRule : ¬ O_AboveRule = O_CellRule)
    (ou_AboveRule_TurnRule : PySem.W.subIn K (.ref O_AboveRule) (.ref O_TurnRule) = some false)
    (ov_AboveRule_TurnRule : ¬ O_AboveRule = O_TurnRule)
    (ou_AboveRule_BesideRule : PySem.W.subIn K (.ref O_AboveRule) (.ref O_BesideRule) = some false)
    (ov_AboveRule_BesideRule : ¬ O_AboveRule = O_BesideRule)
    (ou_TurnRule_CellRule : PySem.W.subIn K (.ref O_TurnRule) (.ref O_CellRule) = some false)
    (ov_TurnRule_CellRule : ¬ O_TurnRule = O_CellRule)
    (ou_TurnRule_TurnRule : PySem.W.subIn K (.ref O_TurnRule) (.ref O_TurnRule) = some true)
    (ou_TurnRule_BesideRule : PySem.W.subIn K (.ref O_TurnRule) (.ref O_BesideRule) = some false)
    (ov_TurnRule_BesideRule : ¬ O_TurnRule = O_BesideRule)
    (ou_Grammar_CellRule : PySem.W.subIn K (.ref O_Grammar) (.ref O_CellRule) = some false)
    (ov_Grammar_CellRule : ¬ O_Grammar = O_CellRule)
    (ou_Grammar_TurnRule : PySem.W.subIn K (.ref O_Grammar) (.ref O_TurnRule) = some false)
    (ov_Grammar_TurnRule : ¬ O_Grammar = O_TurnRule)
    (ou_Grammar_BesideRule : PySem.W.subIn K (.ref O_Grammar) (.ref O_BesideRule) = some false)
    (ov_Grammar_BesideRule : ¬ O_Grammar = O_BesideRule)
    {f_size_of : Addr} {od_size_of an_size_of : Option Addr} {sl_size_of : Array (Option Value)} {oc_size_of kV_size_of dc_size_of pm_size_of cd_size_of ct_size_of : Value} (a_size_of : PySem.W.nsIn K mainGlobals "size_of" = some (some (.ref f_size_of))) (l_size_of : K.lookup f_size_of = some ⟨oc_size_of, od_size_of, .func (PySem.W.fnOf "size_of" "size_of" (defArgs s_size_of) (defBody s_size_of) (defScope s_size_of) .none kV_size_of dc_size_of pm_size_of an_size_of cd_size_of ct_size_of), sl_size_of⟩) (c_size_of : PySem.W.codeIn K cd_size_of "size_of" = true) (k_size_of : PySem.W.keepIn K (.ref f_size_of) = true)
    {f_shown : Addr} {od_shown an_shown : Option Addr} {sl_shown : Array (Option Value)} {oc_shown kV_shown dc_shown pm_shown cd_shown ct_shown : Value} (a_shown : PySem.W.nsIn K mainGlobals "shown" = some (some (.ref f_shown))) (l_shown : K.lookup f_shown = some ⟨oc_shown, od_shown, .func (PySem.W.fnOf "shown" "shown" (defArgs s_shown) (defBody s_shown) (defScope s_shown) .none kV_shown dc_shown pm_shown an_shown cd_shown ct_shown), sl_shown⟩) (c_shown : PySem.W.codeIn K cd_shown "shown" = true) (k_shown : PySem.W.keepIn K (.ref f_shown) = true)
    {f_windows_of : Addr} {od_windows_of an_windows_of : Option Addr} {sl_windows_of : Array (Option Value)} {oc_windows_of kV_windows_of dc_windows_of pm_windows_of cd_windows_of ct_windows_of : Value} (a_windows_of : PySem.W.nsIn K mainGlobals "windows_of" = some (some (.ref f_windows_of))) (l_windows_of : K.lookup f_windows_of = some ⟨oc_windows_of, od_windows_of, .func (PySem.W.fnOf "windows_of" "windows_of" (defArgs s_windows_of) (defBody s_windows_of) (defScope s_windows_of) .none kV_windows_of dc_windows_of pm_windows_of an_windows_of cd_windows_of ct_windows_of), sl_windows_of⟩) (c_windows_of : PySem.W.codeIn K cd_windows_of "windows_of" = true) (k_windows_of : PySem.W.keepIn K (.ref f_windows_of) = true)
    {f_cut_out : Addr} {od_cut_out an_cut_out : Option Addr} {sl_cut_out : Array (Option Value)} {oc_cut_out kV_cut_out dc_cut_out pm_cut_out cd_cut_out ct_cut_out : Value} (a_cut_out : PySem.W.nsIn K mainGlobals "cut_out" = some (some (.ref f_cut_out))) (l_cut_out : K.lookup f_cut_out = some ⟨oc_cut_out, od_cut_out, .func (PySem.W.fnOf "cut_out" "cut_out" (defArgs s_cut_out) (defBody s_cut_out) (defScope s_cut_out) .none kV_cut_out dc_cut_out pm_cut_out an_cut_out cd_cut_out ct_cut_out), sl_cut_out⟩) (c_cut_out : PySem.W.codeIn K cd_cut_out "cut_out" = true) (k_cut_out : PySem.W.keepIn K (.ref f_cut_out) = true)
    {f_beside : Addr} {od_beside an_beside : Option Addr} {sl_beside : Array (Option Value)} {oc_beside kV_beside dc_beside pm_beside cd_beside ct_beside : Value} (a_beside : PySem.W.nsIn K mainGlobals "beside" = some (some (.ref f_beside))) (l_beside : K.lookup f_beside = some ⟨oc_beside, od_beside, .func (PySem.W.fnOf "beside" "beside" (defArgs s_beside) (defBody s_beside) (defScope s_beside) .none kV_beside dc_beside pm_beside an_beside cd_beside ct_beside), sl_beside⟩) (c_beside : PySem.W.codeIn K cd_beside "beside" = true) (k_beside : PySem.W.keepIn K (.ref f_beside) = true)
    {f_above : Addr} {od_above an_above : Option Addr} {sl_above : Array (Option Value)} {oc_above kV_above dc_above pm_above cd_above ct_above : Value} (a_above : PySem.W.nsIn K mainGlobals "above" = some (some (.ref f_above))) (l_above : K.lookup f_above = some ⟨oc_above, od_above, .func (PySem.W.fnOf "above" "above" (defArgs s_above) (defBody s_above) (defScope s_above) .none kV_above dc_above pm_above an_above cd_above ct_above), sl_above⟩) (c_above : PySem.W.codeIn K cd_above "above" = true) (k_above : PySem.W.keepIn K (.ref f_above) = true)
    {f_parted : Addr} {od_parted an_parted : Option Addr} {sl_parted : Array (Option Value)} {oc_parted kV_parted dc_parted pm_parted cd_parted ct_parted : Value} (a_parted : PySem.W.nsIn K mainGlobals "parted" = some (some (.ref f_parted))) (l_parted : K.lookup f_parted = some ⟨oc_parted, od_parted, .func (PySem.W.fnOf "parted" "parted" (defArgs s_parted) (defBody s_parted) (defScope s_parted) .none kV_parted dc_parted pm_parted an_parted cd_parted ct_parted), sl_parted⟩) (c_parted : PySem.W.codeIn K cd_parted "parted" = true) (k_parted : PySem.W.keepIn K (.ref f_parted) = true)
    {f_quarter : Addr} {od_quarter an_quarter : Option Addr} {sl_quarter : Array (Option Value)} {oc_quarter kV_quarter dc_quarter pm_quarter cd_quarter ct_quarter : Value} (a_quarter : PySem.W.nsIn K mainGlobals "quarter" = some (some (.ref f_quarter))) (l_quarter : K.lookup f_quarter = some ⟨oc_quarter, od_quarter, .func (PySem.W.fnOf "quarter" "quarter" (defArgs s_quarter) (defBody s_quarter) (defScope s_quarter) .none kV_quarter dc_quarter pm_quarter an_quarter cd_quarter ct_quarter), sl_quarter⟩) (c_quarter : PySem.W.codeIn K cd_quarter "quarter" = true) (k_quarter : PySem.W.keepIn K (.ref f_quarter) = true)
    {f_mirrored : Addr} {od_mirrored an_mirrored : Option Addr} {sl_mirrored : Array (Option Value)} {oc_mirrored kV_mirrored dc_mirrored pm_mirrored cd_mirrored ct_mirrored : Value} (a_mirrored : PySem.W.nsIn K mainGlobals "mirrored" = some (some (.ref f_mirrored))) (l_mirrored : K.lookup f_mirrored = some ⟨oc_mirrored, od_mirrored, .func (PySem.W.fnOf "mirrored" "mirrored" (defArgs s_mirrored) (defBody s_mirrored) (defScope s_mirrored) .none kV_mirrored dc_mirrored pm_mirrored an_mirrored cd_mirrored ct_mirrored), sl_mirrored⟩) (c_mirrored : PySem.W.codeIn K cd_mirrored "mirrored" = true) (k_mirrored : PySem.W.keepIn K (.ref f_mirrored) = true)
    {f_turned : Addr} {od_turned an_turned : Option Addr} {sl_turned : Array (Option Value)} {oc_turned kV_turned dc_turned pm_turned cd_turned ct_turned : Value} (a_turned : PySem.W.nsIn K mainGlobals "turned" = some (some (.ref f_turned))) (l_turned : K.lookup f_turned = some ⟨oc_turned, od_turned, .func (PySem.W.fnOf "turned" "turned" (defArgs s_turned) (defBody s_turned) (defScope s_turned) .none kV_turned dc_turned pm_turned an_turned cd_turned ct_turned), sl_turned⟩) (c_turned : PySem.W.codeIn K cd_turned "turned" = true) (k_turned : PySem.W.keepIn K (.ref f_turned) = true)
    {f_after : Addr} {od_after an_after : Option Addr} {sl_after : Array (Option Value)} {oc_after kV_after dc_after pm_after cd_after ct_after : Value} (a_after : PySem.W.nsIn K mainGlobals "after" = some (some (.ref f_after))) (l_after : K.lookup f_after = some ⟨oc_after, od_after, .func (PySem.W.fnOf "after" "after" (defArgs s_after) (defBody s_after) (defScope s_after) .none kV_after dc_after pm_after an_after cd_after ct_after), sl_after⟩) (c_after : PySem.W.codeIn K cd_after "after" = true) (k_after : PySem.W.keepIn K (.ref f_after) = true)
    {f_back : Addr} {od_back an_back : Option Addr} {sl_back : Array (Option Value)} {oc_back kV_back dc_back pm_back cd_back ct_back : Value} (a_back : PySem.W.nsIn K mainGlobals "back" = some (some (.ref f_back))) (l_back : K.lookup f_back = some ⟨oc_back, od_back, .func (PySem.W.fnOf "back" "back" (defArgs s_back) (defBody s_back) (defScope s_back) .none kV_back dc_back pm_back an_back cd_back ct_back), sl_back⟩) (c_back : PySem.W.codeIn K cd_back "back" = true) (k_back : PySem.W.keepIn K (.ref f_back) = true)
    {f_many_cells : Addr} {od_many_cells an_many_cells : Option Addr} {sl_many_cells : Array (Option Value)} {oc_many_cells kV_many_cells dc_many_cells pm_many_cells cd_many_cells ct_many_cells : Value} (a_many_cells : PySem.W.nsIn K mainGlobals "many_cells" = some (some (.ref f_many_cells))) (l_many_cells : K.lookup f_many_cells = some ⟨oc_many_cells, od_many_cells, .func (PySem.W.fnOf "many_cells" "many_cells" (defArgs s_many_cells) (defBody s_many_cells) (defScope s_many_cells) .none kV_many_cells dc_many_cells pm_many_cells an_many_cells cd_many_cells ct_many_cells), sl_many_cells⟩) (c_many_cells : PySem.W.codeIn K cd_many_cells "many_cells" = true) (k_many_cells : PySem.W.keepIn K (.ref f_many_cells) = true)
    {f_seen_in : Addr} {od_seen_in an_seen_in : Option Addr} {sl_seen_in : Array (Option Value)} {oc_seen_in kV_seen_in dc_seen_in pm_seen_in cd_seen_in ct_seen_in : Value} (a_seen_in : PySem.W.nsIn K mainGlobals "seen_in" = some (some (.ref f_seen_in))) (l_seen_in : K.lookup f_seen_in = some ⟨oc_seen_in, od_seen_in, .func (PySem.W.fnOf "seen_in" "seen_in" (defArgs s_seen_in) (defBody s_seen_in) (defScope s_seen_in) .none kV_seen_in dc_seen_in pm_seen_in an_seen_in cd_seen_in ct_seen_in), sl_seen_in⟩) (c_seen_in : PySem.W.codeIn K cd_seen_in "seen_in" = true) (k_seen_in : PySem.W.keepIn K (.ref f_seen_in) = true)
    {f_is_name : Addr} {od_is_name an_is_name : Option Addr} {sl_is_name : Array (Option Value)} {oc_is_name kV_is_name dc_is_name pm_is_name cd_is_name ct_is_name : Value} (a_is_name : PySem.W.nsIn K mainGlobals "is_name" = some (some (.ref f_is_name))) (l_is_name : K.lookup f_is_name = some ⟨oc_is_name, od_is_name, .func (PySem.W.fnOf "is_name" "is_name" (defArgs s_is_name) (defBody s_is_name) (defScope s_is_name) .none kV_is_name dc_is_name pm_is_name an_is_name cd_is_name ct_is_name), sl_is_name⟩) (c_is_name : PySem.W.codeIn K cd_is_name "is_name" = true) (k_is_name : PySem.W.keepIn K (.ref f_is_name) = true)
    {f_asked_name : Addr} {od_asked_name an_asked_name : Option Addr} {sl_asked_name : Array (Option Value)} {oc_asked_name kV_asked_name dc_asked_name pm_asked_name cd_asked_name ct_asked_name : Value} (a_asked_name : PySem.W.nsIn K mainGlobals "asked_name" = some (some (.ref f_asked_name))) (l_asked_name : K.lookup f_asked_name = some ⟨oc_asked_name, od_asked_name, .func (PySem.W.fnOf "asked_name" "asked_name" (defArgs s_asked_name) (defBody s_asked_name) (defScope s_asked_name) .none kV_asked_name dc_asked_name pm_asked_name an_asked_name cd_asked_name ct_asked_name), sl_asked_name⟩) (c_asked_name : PySem.W.codeIn K cd_asked_name "asked_name" = true) (k_asked_name : PySem.W.keepIn K (.ref f_asked_name) = true)
    {f_turned_pair : Addr} {od_turned_pair an_turned_pair : Option Addr} {sl_turned_pair : Array (Option Value)} {oc_turned_pair kV_turned_pair dc_turned_pair pm_turned_pair cd_turned_pair ct_turned_pair : Value} (a_turned_pair : PySem.W.nsIn K mainGlobals "turned_pair" = some (some (.ref f_turned_pair))) (l_turned_pair : K.lookup f_turned_pair = some ⟨oc_turned_pair, od_turned_pair, .func (PySem.W.fnOf "turned_pair" "turned_pair" (defArgs s_turned_pair) (defBody s_turned_pair) (defScope s_turned_pair) .none kV_turned_pair dc_turned_pair pm_turned_pair an_turned_pair cd_turned_pair ct_turned_pair), sl_turned_pair⟩) (c_turned_pair : PySem.W.codeIn K cd_turned_pair "turned_pair" = true) (k_turned_pair : PySem.W.keepIn K (.ref f_turned_pair) = true)
    {f_name_in : Addr} {od_name_in an_name_in : Option Addr} {sl_name_in : Array (Option Value)} {oc_name_in kV_name_in dc_name_in pm_name_in cd_name_in ct_name_in : Value} (a_name_in : PySem.W.nsIn K mainGlobals "name_in" = some (some (.ref f_name_in))) (l_name_in : K.lookup f_name_in = some ⟨oc_name_in, od_name_in, .func (PySem.W.fnOf "name_in" "name_in" (defArgs s_name_in) (defBody s_name_in) (defScope s_name_in) .none kV_name_in dc_name_in pm_name_in an_name_in cd_name_in ct_name_in), sl_name_in⟩) (c_name_in : PySem.W.codeIn K cd_name_in "name_in" = true) (k_name_in : PySem.W.keepIn K (.ref f_name_in) = true)
    {f_uses_for : Addr} {od_uses_for an_uses_for : Option Addr} {sl_uses_for : Array (Option Value)} {oc_uses_for kV_uses_for dc_uses_for pm_uses_for cd_uses_for ct_uses_for : Value} (a_uses_for : PySem.W.nsIn K mainGlobals "uses_for" = some (some (.ref f_uses_for))) (l_uses_for : K.lookup f_uses_for = some ⟨oc_uses_for, od_uses_for, .func (PySem.W.fnOf "uses_for" "uses_for" (defArgs s_uses_for) (defBody s_uses_for) (defScope s_uses_for) .none kV_uses_for dc_uses_for pm_uses_for an_uses_for cd_uses_for ct_uses_for), sl_uses_for⟩) (c_uses_for : PySem.W.codeIn K cd_uses_for "uses_for" = true) (k_uses_for : PySem.W.keepIn K (.ref f_uses_for) = true)
    {f_cost_by : Addr} {od_cost_by an_cost_by : Option Addr} {sl_cost_by : Array (Option Value)} {oc_cost_by kV_cost_by dc_cost_by pm_cost_by cd_cost_by ct_cost_by : Value} (a_cost_by : PySem.W.nsIn K mainGlobals "cost_by" = some (some (.ref f_cost_by))) (l_cost_by : K.lookup f_cost_by = some ⟨oc_cost_by, od_cost_by, .func (PySem.W.fnOf "cost_by" "cost_by" (defArgs s_cost_by) (defBody s_cost_by) (defScope s_cost_by) .none kV_cost_by dc_cost_by pm_cost_by an_cost_by cd_cost_by ct_cost_by), sl_cost_by⟩) (c_cost_by : PySem.W.codeIn K cd_cost_by "cost_by" = true) (k_cost_by : PySem.W.keepIn K (.ref f_cost_by) = true)
    {f_lowered : Addr} {od_lowered an_lowered : Option Addr} {sl_lowered : Array (Option Value)} {oc_lowered kV_lowered dc_lowered pm_lowered cd_lowered ct_lowered : Value} (a_lowered : PySem.W.nsIn K mainGlobals "lowered" = some (some (.ref f_lowered))) (l_lowered : K.lookup f_lowered = some ⟨oc_lowered, od_lowered, .func (PySem.W.fnOf "lowered" "lowered" (defArgs s_lowered) (defBody s_lowered) (defScope s_lowered) .none kV_lowered dc_lowered pm_lowered an_lowered cd_lowered ct_lowered), sl_lowered⟩) (c_lowered : PySem.W.codeIn K cd_lowered "lowered" = true) (k_lowered : PySem.W.keepIn K (.ref f_lowered) = true)
    {f_settle : Addr} {od_settle an_settle : Option Addr} {sl_settle : Array (Option Value)} {oc_settle kV_settle dc_settle pm_settle cd_settle ct_settle : Value} (a_settle : PySem.W.nsIn K mainGlobals "settle" = some (some (.ref f_settle))) (l_settle : K.lookup f_settle = some ⟨oc_settle, od_settle, .func (PySem.W.fnOf "settle" "settle" (defArgs s_settle) (defBody s_settle) (defScope s_settle) .none kV_settle dc_settle pm_settle an_settle cd_settle ct_settle), sl_settle⟩) (c_settle : PySem.W.codeIn K cd_settle "settle" = true) (k_settle : PySem.W.keepIn K (.ref f_settle) = true)
    {f_cells_in : Addr} {od_cells_in an_cells_in : Option Addr} {sl_cells_in : Array (Option Value)} {oc_cells_in kV_cells_in dc_cells_in pm_cells_in cd_cells_in ct_cells_in : Value} (a_cells_in : PySem.W.nsIn K mainGlobals "cells_in" = some (some (.ref f_cells_in))) (l_cells_in : K.lookup f_cells_in = some ⟨oc_cells_in, od_cells_in, .func (PySem.W.fnOf "cells_in" "cells_in" (defArgs s_cells_in) (defBody s_cells_in) (defScope s_cells_in) .none kV_cells_in dc_cells_in pm_cells_in an_cells_in cd_cells_in ct_cells_in), sl_cells_in⟩) (c_cells_in : PySem.W.codeIn K cd_cells_in "cells_in" = true) (k_cells_in : PySem.W.keepIn K (.ref f_cells_in) = true)
    {f_table_of : Addr} {od_table_of an_table_of : Option Addr} {sl_table_of : Array (Option Value)} {oc_table_of kV_table_of dc_table_of pm_table_of cd_table_of ct_table_of : Value} (a_table_of : PySem.W.nsIn K mainGlobals "table_of" = some (some (.ref f_table_of))) (l_table_of : K.lookup f_table_of = some ⟨oc_table_of, od_table_of, .func (PySem.W.fnOf "table_of" "table_of" (defArgs s_table_of) (defBody s_table_of) (defScope s_table_of) .none kV_table_of dc_table_of pm_table_of an_table_of cd_table_of ct_table_of), sl_table_of⟩) (c_table_of : PySem.W.codeIn K cd_table_of "table_of" = true) (k_table_of : PySem.W.keepIn K (.ref f_table_of) = true)
    {f_numbers_in : Addr} {od_numbers_in an_numbers_in : Option Addr} {sl_numbers_in : Array (Option Value)} {oc_numbers_in kV_numbers_in dc_numbers_in pm_numbers_in cd_numbers_in ct_numbers_in : Value} (a_numbers_in : PySem.W.nsIn K mainGlobals "numbers_in" = some (some (.ref f_numbers_in))) (l_numbers_in : K.lookup f_numbers_in = some ⟨oc_numbers_in, od_numbers_in, .func (PySem.W.fnOf "numbers_in" "numbers_in" (defArgs s_numbers_in) (defBody s_numbers_in) (defScope s_numbers_in) .none kV_numbers_in dc_numbers_in pm_numbers_in an_numbers_in cd_numbers_in ct_numbers_in), sl_numbers_in⟩) (c_numbers_in : PySem.W.codeIn K cd_numbers_in "numbers_in" = true) (k_numbers_in : PySem.W.keepIn K (.ref f_numbers_in) = true)
    {f_first_use : Addr} {od_first_use an_first_use : Option Addr} {sl_first_use : Array (Option Value)} {oc_first_use kV_first_use dc_first_use pm_first_use cd_first_use ct_first_use : Value} (a_first_use : PySem.W.nsIn K mainGlobals "first_use" = some (some (.ref f_first_use))) (l_first_use : K.lookup f_first_use = some ⟨oc_first_use, od_first_use, .func (PySem.W.fnOf "first_use" "first_use" (defArgs s_first_use) (defBody s_first_use) (defScope s_first_use) .none kV_first_use dc_first_use pm_first_use an_first_use cd_first_use ct_first_use), sl_first_use⟩) (c_first_use : PySem.W.codeIn K cd_first_use "first_use" = true) (k_first_use : PySem.W.keepIn K (.ref f_first_use) = true)
    {f_grown : Addr} {od_grown an_grown : Option Addr} {sl_grown : Array (Option Value)} {oc_grown kV_grown dc_grown pm_grown cd_grown ct_grown : Value} (a_grown : PySem.W.nsIn K mainGlobals "grown" = some (some (.ref f_grown))) (l_grown : K.lookup f_grown = some ⟨oc_grown, od_grown, .func (PySem.W.fnOf "grown" "grown" (defArgs s_grown) (defBody s_grown) (defScope s_grown) .none kV_grown dc_grown pm_grown an_grown cd_grown ct_grown), sl_grown⟩) (c_grown : PySem.W.codeIn K cd_grown "grown" = true) (k_grown : PySem.W.keepIn K (.ref f_grown) = true)
    {T_first_tree : Addr} {tc_first_tree : Value} {td_first_tree : Option Addr} {ts_first_tree : Array (Option Value)} {tm_first_tree : Nat}
    {f_first_tree : Addr} {od_first_tree an_first_tree : Option Addr} {sl_first_tree : Array (Option Value)} {oc_first_tree kV_first_tree dc_first_tree pm_first_tree cd_first_tree ct_first_tree : Value} (a_first_tree : PySem.W.nsIn K mainGlobals "first_tree" = some (some (.ref f_first_tree))) (l_first_tree : K.lookup f_first_tree = some ⟨oc_first_tree, od_first_tree, .func (PySem.W.fnOf "first_tree" "first_tree" (defArgs s_first_tree) (defBody s_first_tree) (defScope s_first_tree) (.ref T_first_tree) kV_first_tree dc_first_tree pm_first_tree an_first_tree cd_first_tree ct_first_tree), sl_first_tree⟩) (c_first_tree : PySem.W.codeIn K cd_first_tree "first_tree" = true) (k_first_tree : PySem.W.keepIn K (.ref f_first_tree) = true)
    (t_first_tree : K.lookup T_first_tree = some ⟨tc_first_tree, td_first_tree, .seq #[Value.none] tm_first_tree, ts_first_tree⟩)
    {f_are_signs : Addr} {od_are_signs an_are_signs : Option Addr} {sl_are_signs : Array (Option Value)} {oc_are_signs kV_are_signs dc_are_signs pm_are_signs cd_are_signs ct_are_signs : Value} (a_are_signs : PySem.W.nsIn K mainGlobals "are_signs" = some (some (.ref f_are_signs))) (l_are_signs : K.lookup f_are_signs = some ⟨oc_are_signs, od_are_signs, .func (PySem.W.fnOf "are_signs" "are_signs" (defArgs s_are_signs) (defBody s_are_signs) (defScope s_are_signs) .none kV_are_signs dc_are_signs pm_are_signs an_are_signs cd_are_signs ct_are_signs), sl_are_signs⟩) (c_are_signs : PySem.W.codeIn K cd_are_signs "are_signs" = true) (k_are_signs : PySem.W.keepIn K (.ref f_are_signs) = true)
    {f_names_met : Addr} {od_names_met an_names_met : Option Addr} {sl_names_met : Array (Option Value)} {oc_names_met kV_names_met dc_names_met pm_names_met cd_names_met ct_names_met : Value} (a_names_met : PySem.W.nsIn K mainGlobals "names_met" = some (some (.ref f_names_met))) (l_names_met : K.lookup f_names_met = some ⟨oc_names_met, od_names_met, .func (PySem.W.fnOf "names_met" "names_met" (defArgs s_names_met) (defBody s_names_met) (defScope s_names_met) .none kV_names_met dc_names_met pm_names_met an_names_met cd_names_met ct_names_met), sl_names_met⟩) (c_names_met : PySem.W.codeIn K cd_names_met "names_met" = true) (k_names_met : PySem.W.keepIn K (.ref f_names_met) = true)
    {f_asked_rules : Addr} {od_asked_rules an_asked_rules : Option Addr} {sl_asked_rules : Array (Option Value)} {oc_asked_rules kV_asked_rules dc_asked_rules pm_asked_rules cd_asked_rules ct_asked_rules : Value} (a_asked_rules : PySem.W.nsIn K mainGlobals "asked_rules" = some (some (.ref f_asked_rules))) (l_asked_rules : K.lookup f_asked_rules = some ⟨oc_asked_rules, od_asked_rules, .func (PySem.W.fnOf "asked_rules" "asked_rules" (defArgs s_asked_rules) (defBody s_asked_rules) (defScope s_asked_rules) .none kV_asked_rules dc_asked_rules pm_asked_rules an_asked_rules cd_asked_rules ct_asked_rules), sl_asked_rules⟩) (c_asked_rules : PySem.W.codeIn K cd_asked_rules "asked_rules" = true) (k_asked_rules : PySem.W.keepIn K (.ref f_asked_rules) = true)
    {f_law_cell : Addr} {od_law_cell an_law_cell : Option Addr} {sl_law_cell : Array (Option Value)} {oc_law_cell kV_law_cell dc_law_cell pm_law_cell cd_law_cell ct_law_cell : Value} (a_law_cell : PySem.W.nsIn K mainGlobals "_law_cell" = some (some (.ref f_law_cell))) (l_law_cell : K.lookup f_law_cell = some ⟨oc_law_cell, od_law_cell, .func (PySem.W.fnOf "_law_cell" "_law_cell" (defArgs s_law_cell) (defBody s_law_cell) (defScope s_law_cell) .none kV_law_cell dc_law_cell pm_law_cell an_law_cell cd_law_cell ct_law_cell), sl_law_cell⟩) (c_law_cell : PySem.W.codeIn K cd_law_cell "_law_cell" = true) (k_law_cell : PySem.W.keepIn K (.ref f_law_cell) = true)
    {f_law_signs : Addr} {od_law_signs an_law_signs : Option Addr} {sl_law_signs : Array (Option Value)} {oc_law_signs kV_law_signs dc_law_signs pm_law_signs cd_law_signs ct_law_signs : Value} (a_law_signs : PySem.W.nsIn K mainGlobals "_law_signs" = some (some (.ref f_law_signs))) (l_law_signs : K.lookup f_law_signs = some ⟨oc_law_signs, od_law_signs, .func (PySem.W.fnOf "_law_signs" "_law_signs" (defArgs s_law_signs) (defBody s_law_signs) (defScope s_law_signs) .none kV_law_signs dc_law_signs pm_law_signs an_law_signs cd_law_signs ct_law_signs), sl_law_signs⟩) (c_law_signs : PySem.W.codeIn K cd_law_signs "_law_signs" = true) (k_law_signs : PySem.W.keepIn K (.ref f_law_signs) = true)
    {f_law_grammar : Addr} {od_law_grammar an_law_grammar : Option Addr} {sl_law_grammar : Array (Option Value)} {oc_law_grammar kV_law_grammar dc_law_grammar pm_law_grammar cd_law_grammar ct_law_grammar : Value} (a_law_grammar : PySem.W.nsIn K mainGlobals "_law_grammar" = some (some (.ref f_law_grammar))) (l_law_grammar : K.lookup f_law_grammar = some ⟨oc_law_grammar, od_law_grammar, .func (PySem.W.fnOf "_law_grammar" "_law_grammar" (defArgs s_law_grammar) (defBody s_law_grammar) (defScope s_law_grammar) .none kV_law_grammar dc_law_grammar pm_law_grammar an_law_grammar cd_law_grammar ct_law_grammar), sl_law_grammar⟩) (c_law_grammar : PySem.W.codeIn K cd_law_grammar "_law_grammar" = true) (k_law_grammar : PySem.W.keepIn K (.ref f_law_grammar) = true)
    {f_law_numbers : Addr} {od_law_numbers an_law_numbers : Option Addr} {sl_law_numbers : Array (Option Value)} {oc_law_numbers kV_law_numbers dc_law_numbers pm_law_numbers cd_law_numbers ct_law_numbers : Value} (a_law_numbers : PySem.W.nsIn K mainGlobals "_law_numbers" = some (some (.ref f_law_numbers))) (l_law_numbers : K.lookup f_law_numbers = some ⟨oc_law_numbers, od_law_numbers, .func (PySem.W.fnOf "_law_numbers" "_law_numbers" (defArgs s_law_numbers) (defBody s_law_numbers) (defScope s_law_numbers) .none kV_law_numbers dc_law_numbers pm_law_numbers an_law_numbers cd_law_numbers ct_law_numbers), sl_law_numbers⟩) (c_law_numbers : PySem.W.codeIn K cd_law_numbers "_law_numbers" = true) (k_law_numbers : PySem.W.keepIn K (.ref f_law_numbers) = true)
    {f_law_deep : Addr} {od_law_deep an_law_deep : Option Addr} {sl_law_deep : Array (Option Value)} {oc_law_deep kV_law_deep dc_law_deep pm_law_deep cd_law_deep ct_law_deep : Value} (a_law_deep : PySem.W.nsIn K mainGlobals "_law_deep" = some (some (.ref f_law_deep))) (l_law_deep : K.lookup f_law_deep = some ⟨oc_law_deep, od_law_deep, .func (PySem.W.fnOf "_law_deep" "_law_deep" (defArgs s_law_deep) (defBody s_law_deep) (defScope s_law_deep) .none kV_law_deep dc_law_deep pm_law_deep an_law_deep cd_law_deep ct_law_deep), sl_law_deep⟩) (c_law_deep : PySem.W.codeIn K cd_law_deep "_law_deep" = true) (k_law_deep : PySem.W.keepIn K (.ref f_law_deep) = true)
    {f_law_asked : Addr} {od_law_asked an_law_asked : Option Addr} {sl_law_asked : Array (Option Value)} {oc_law_asked kV_law_asked dc_law_asked pm_law_asked cd_law_asked ct_law_asked : Value} (a_law_asked : PySem.W.nsIn K mainGlobals "_law_asked" = some (some (.ref f_law_asked))) (l_law_asked : K.lookup f_law_asked = some ⟨oc_law_asked, od_law_asked, .func (PySem.W.fnOf "_law_asked" "_law_asked" (defArgs s_law_asked) (defBody s_law_asked) (defScope s_law_asked) .none kV_law_asked dc_law_asked pm_law_asked an_law_asked cd_law_asked ct_law_asked), sl_law_asked⟩) (c_law_asked : PySem.W.codeIn K cd_law_asked "_law_asked" = true) (k_law_asked : PySem.W.keepIn K (.ref f_law_asked) = true)
    {f_law_sheet : Addr} {od_law_sheet an_law_sheet : Option Addr} {sl_law_sheet : Array (Option Value)} {oc_law_sheet kV_law_sheet dc_law_sheet pm_law_sheet cd_law_sheet ct_law_sheet : Value} (a_law_sheet : PySem.W.nsIn K mainGlobals "_law_sheet" = some (some (.ref f_law_sheet))) (l_law_sheet : K.lookup f_law_sheet = some ⟨oc_law_sheet, od_law_sheet, .func (PySem.W.fnOf "_law_sheet" "_law_sheet" (defArgs s_law_sheet) (defBody s_law_sheet) (defScope s_law_sheet) .none kV_law_sheet dc_law_sheet pm_law_sheet an_law_sheet cd_law_sheet ct_law_sheet), sl_law_sheet⟩) (c_law_sheet : PySem.W.codeIn K cd_law_sheet "_law_sheet" = true) (k_law_sheet : PySem.W.keepIn K (.ref f_law_sheet) = true)
    {f_law_line : Addr} {od_law_line an_law_line : Option Addr} {sl_law_line : Array (Option Value)} {oc_law_line kV_law_line dc_law_line pm_law_line cd_law_line ct_law_line : Value} (a_law_line : PySem.W.nsIn K mainGlobals "_law_line" = some (some (.ref f_law_line))) (l_law_line : K.lookup f_law_line = some ⟨oc_law_line, od_law_line, .func (PySem.W.fnOf "_law_line" "_law_line" (defArgs s_law_line) (defBody s_law_line) (defScope s_law_line) .none kV_law_line dc_law_line pm_law_line an_law_line cd_law_line ct_law_line), sl_law_line⟩) (c_law_line : PySem.W.codeIn K cd_law_line "_law_line" = true) (k_law_line : PySem.W.keepIn K (.ref f_law_line) = true)
    {f_law_corner : Addr} {od_law_corner an_law_corner : Option Addr} {sl_law_corner : Array (Option Value)} {oc_law_corner kV_law_corner dc_law_corner pm_law_corner cd_law_corner ct_law_corner : Value} (a_law_corner : PySem.W.nsIn K mainGlobals "_law_corner" = some (some (.ref f_law_corner))) (l_law_corner : K.lookup f_law_corner = some ⟨oc_law_corner, od_law_corner, .func (PySem.W.fnOf "_law_corner" "_law_corner" (defArgs s_law_corner) (defBody s_law_corner) (defScope s_law_corner) .none kV_law_corner dc_law_corner pm_law_corner an_law_corner cd_law_corner ct_law_corner), sl_law_corner⟩) (c_law_corner : PySem.W.codeIn K cd_law_corner "_law_corner" = true) (k_law_corner : PySem.W.keepIn K (.ref f_law_corner) = true)
    : Txt K mg := ⟨PySem.W.mg_none_of X G zb_ValueError,
    PySem.W.mg_none_of X G zb_all,
    PySem.W.mg_none_of X G zb_bool,
    PySem.W.mg_none_of X G zb_enumerate,
    PySem.W.mg_none_of X G zb_int,
    PySem.W.mg_none_of X G zb_isinstance,
    PySem.W.mg_none_of X G zb_len,
    PySem.W.mg_none_of X G zb_list,
    PySem.W.mg_none_of X G zb_max,
    PySem.W.mg_none_of X G zb_range,
    PySem.W.mg_none_of X G zb_reversed,
    PySem.W.mg_none_of X G zb_set,
    PySem.W.mg_none_of X G zb_sorted,
    PySem.W.mg_none_of X G zb_str,
    PySem.W.mg_none_of X G zb_tuple,
    PySem.W.mg_none_of X G zb_zip,
    ⟨_, PySem.W.mg_of X G zc_MOST⟩,
    ⟨_, PySem.W.mg_of X G zc_MIRROR⟩,
    ⟨_, PySem.W.mg_of X G zc_CAPITALS⟩,
    ⟨_, PySem.W.mg_of X G zc_SMALL⟩,
    ⟨_, PySem.W.mg_of X G zc_MOST_LETTERS⟩,
    ⟨_, PySem.W.mg_of X G zc_MOST_COST⟩,
    ⟨_, PySem.W.mg_of X G zc_MOST_NUMBERS⟩,
    ⟨_, PySem.W.mg_of X G zc_MOST_WITHIN⟩,
    ⟨_, PySem.W.mg_of X G zc_MOST_SIGNS⟩,
    ⟨_, PySem.W.mg_of X G zc_MOST_RULES⟩,
    ⟨_, PySem.W.mg_of X G zc_MOST_NAMES⟩,
    ⟨C_QuiltError, ⟨xa_QuiltError, xk_QuiltError, xt_QuiltError, xg_QuiltError, xh_QuiltError, xs_QuiltError, xd_QuiltError, xc_QuiltError, xn, xq, xm_QuiltError⟩, PySem.W.mg_of X G xa_QuiltError⟩,
    ⟨C_NoFit, ⟨xa_NoFit, xk_NoFit, xt_NoFit, xg_NoFit, xh_NoFit, xs_NoFit, xd_NoFit, xc_NoFit, xn, xq, xm_NoFit⟩, PySem.W.mg_of X G xa_NoFit⟩,
    ⟨C_NoRule, ⟨xa_NoRule, xk_NoRule, xt_NoRule, xg_NoRule, xh_NoRule, xs_NoRule, xd_NoRule, xc_NoRule, xn, xq, xm_NoRule⟩, PySem.W.mg_of X G xa_NoRule⟩,
    ⟨C_NoGrammar, ⟨xa_NoGrammar, xk_NoGrammar, xt_NoGrammar, xg_NoGrammar, xh_NoGrammar, xs_NoGrammar, xd_NoGrammar, xc_NoGrammar, xn, xq, xm_NoGrammar⟩, PySem.W.mg_of X G xa_NoGrammar⟩,
    ⟨C_NoName, ⟨xa_NoName, xk_NoName, xt_NoName, xg_NoName, xh_NoName, xs_NoName, xd_NoName, xc_NoName, xn, xq, xm_NoName⟩, PySem.W.mg_of X G xa_NoName⟩,
    ⟨C_TooMany, ⟨xa_TooMany, xk_TooMany, xt_TooMany, xg_TooMany, xh_TooMany, xs_TooMany, xd_TooMany, xc_TooMany, xn, xq, xm_TooMany⟩, PySem.W.mg_of X G xa_TooMany⟩,
    ⟨C_NoNumber, ⟨xa_NoNumber, xk_NoNumber, xt_NoNumber, xg_NoNumber, xh_NoNumber, xs_NoNumber, xd_NoNumber, xc_NoNumber, xn, xq, xm_NoNumber⟩, PySem.W.mg_of X G xa_NoNumber⟩,
    XPlain.mk xa_NoFit xp_NoFit,
    XPlain.mk xa_NoRule xp_NoRule,
    XPlain.mk xa_NoName xp_NoName,
    XPlain.mk xa_TooMany xp_TooMany,
    ⟨C_NoGrammar, fI_NoGrammar, _, xa_NoGrammar, ⟨⟨_, _, _, _, _, _, _, _, _, _, _, _, _, _, _, xl_NoGrammar, xv_NoGrammar⟩, xw_NoGrammar, xs_NoGrammar, xt_NoGrammar, xk_NoGrammar⟩, xf_NoGrammar, xi_NoGrammar, xj_NoGrammar, fun_mk xo_NoGrammar xu_NoGrammar xz_NoGrammar, (fun_mk (st := s_NoGrammar_init) xo_NoGrammar xu_NoGrammar xz_NoGrammar).binds fun _ _ _ _ _ _ => ar2 fun _ _ => rfl⟩,
    ⟨C_QuiltError, PySem.W.mg_of X G xa_QuiltError, qs_QuiltError, qr_QuiltError, qf_QuiltError⟩,
    XSub.mk xa_NoFit xa_QuiltError xt_QuiltError xs_QuiltError xd_QuiltError y_NoFit_QuiltError (fun _ => rfl),
    XSub.mk xa_NoFit xa_TooMany xt_TooMany xs_TooMany xd_TooMany y_NoFit_TooMany (fun e => absurd e d_NoFit_TooMany),
    XSub.mk xa_NoFit xa_NoFit xt_NoFit xs_NoFit xd_NoFit y_NoFit_NoFit (fun _ => rfl),
    XSub.mk xa_NoFit xa_NoName xt_NoName xs_NoName xd_NoName y_NoFit_NoName (fun e => absurd e d_NoFit_NoName),
    XSub.mk xa_NoFit xa_NoNumber xt_NoNumber xs_NoNumber xd_NoNumber y_NoFit_NoNumber (fun e => absurd e d_NoFit_NoNumber),
    XSub.mk xa_NoRule xa_QuiltError xt_QuiltError xs_QuiltError xd_QuiltError y_NoRule_QuiltError (fun _ => rfl),
    XSub.mk xa_NoRule xa_TooMany xt_TooMany xs_TooMany xd_TooMany y_NoRule_TooMany (fun e => absurd e d_NoRule_TooMany),
    XSub.mk xa_NoRule xa_NoFit xt_NoFit xs_NoFit xd_NoFit y_NoRule_NoFit (fun e => absurd e d_NoRule_NoFit),
    XSub.mk xa_NoRule xa_NoName xt_NoName xs_NoName xd_NoName y_NoRule_NoName (fun e => absurd e d_NoRule_NoName),
    XSub.mk xa_NoRule xa_NoNumber xt_NoNumber xs_NoNumber xd_NoNumber y_NoRule_NoNumber (fun e => absurd e d_NoRule_NoNumber),
    XSub.mk xa_NoName xa_QuiltError xt_QuiltError xs_QuiltError xd_QuiltError y_NoName_QuiltError (fun _ => rfl),
    XSub.mk xa_NoName xa_TooMany xt_TooMany xs_TooMany xd_TooMany y_NoName_TooMany (fun e => absurd e d_NoName_TooMany),
    XSub.mk xa_NoName xa_NoFit xt_NoFit xs_NoFit xd_NoFit y_NoName_NoFit (fun e => absurd e d_NoName_NoFit),
    XSub.mk xa_NoName xa_NoName xt_NoName xs_NoName xd_NoName y_NoName_NoName (fun _ => rfl),
    XSub.mk xa_NoName xa_NoNumber xt_NoNumber xs_NoNumber xd_NoNumber y_NoName_NoNumber (fun e => absurd e d_NoName_NoNumber),
    XSub.mk xa_TooMany xa_QuiltError xt_QuiltError xs_QuiltError xd_QuiltError y_TooMany_QuiltError (fun _ => rfl),
    XSub.mk xa_TooMany xa_TooMany xt_TooMany xs_TooMany xd_TooMany y_TooMany_TooMany (fun _ => rfl),
    XSub.mk xa_TooMany xa_NoFit xt_NoFit xs_NoFit xd_NoFit y_TooMany_NoFit (fun e => absurd e d_TooMany_NoFit),
    XSub.mk xa_TooMany xa_NoName xt_NoName xs_NoName xd_NoName y_TooMany_NoName (fun e => absurd e d_TooMany_NoName),
    XSub.mk xa_TooMany xa_NoNumber xt_NoNumber xs_NoNumber xd_NoNumber y_TooMany_NoNumber (fun e => absurd e d_TooMany_NoNumber),
    XSub.mk xa_NoGrammar xa_QuiltError xt_QuiltError xs_QuiltError xd_QuiltError y_NoGrammar_QuiltError (fun _ => rfl),
    XSub.mk xa_NoGrammar xa_TooMany xt_TooMany xs_TooMany xd_TooMany y_NoGrammar_TooMany (fun e => absurd e d_NoGrammar_TooMany),
    XSub.mk xa_NoGrammar xa_NoFit xt_NoFit xs_NoFit xd_NoFit y_NoGrammar_NoFit (fun e => absurd e d_NoGrammar_NoFit),
    XSub.mk xa_NoGrammar xa_NoName xt_NoName xs_NoName xd_NoName y_NoGrammar_NoName (fun e => absurd e d_NoGrammar_NoName),
    XSub.mk xa_NoGrammar xa_NoNumber xt_NoNumber xs_NoNumber xd_NoNumber y_NoGrammar_NoNumber (fun e => absurd e d_NoGrammar_NoNumber),
    ⟨O_Rule, ⟨oa_Rule, ⟨ob_Rule, oc_Rule, od_Rule, oe_Rule⟩, of_Rule, og_Rule, oh_Rule, oi_Rule, xn, xq, oj_Rule⟩, PySem.W.mg_of X G oa_Rule⟩,
    ⟨O_CellRule, ⟨oa_CellRule, ⟨ob_CellRule, oc_CellRule, od_CellRule, oe_CellRule⟩, of_CellRule, og_CellRule, oh_CellRule, oi_CellRule, xn, xq, oj_CellRule⟩, PySem.W.mg_of X G oa_CellRule⟩,
    ⟨O_BesideRule, ⟨oa_BesideRule, ⟨ob_BesideRule, oc_BesideRule, od_BesideRule, oe_BesideRule⟩, of_BesideRule, og_BesideRule, oh_BesideRule, oi_BesideRule, xn, xq, oj_BesideRule⟩, PySem.W.mg_of X G oa_BesideRule⟩,
    ⟨O_AboveRule, ⟨oa_AboveRule, ⟨ob_AboveRule, oc_AboveRule, od_AboveRule, oe_AboveRule⟩, of_AboveRule, og_AboveRule, oh_AboveRule, oi_AboveRule, xn, xq, oj_AboveRule⟩, PySem.W.mg_of X G oa_AboveRule⟩,
    ⟨O_TurnRule, ⟨oa_TurnRule, ⟨ob_TurnRule, oc_TurnRule, od_TurnRule, oe_TurnRule⟩, of_TurnRule, og_TurnRule, oh_TurnRule, oi_TurnRule, xn, xq, oj_TurnRule⟩, PySem.W.mg_of X G oa_TurnRule⟩,
    ⟨O_Grammar, ⟨oa_Grammar, ⟨ob_Grammar, oc_Grammar, od_Grammar, oe_Grammar⟩, of_Grammar, og_Grammar, oh_Grammar, oi_Grammar, xn, xq, oj_Grammar⟩, PySem.W.mg_of X G oa_Grammar⟩,
    fun D e => ns_one oa_Rule e ▸ na_Rule_name,
    fun D e => ns_one oa_Rule e ▸ na_Rule_cost,
    ⟨O_Rule, g_Rule_init, _, oa_Rule, ⟨ma_Rule_init, mf_Rule_init, mk_Rule_init⟩, fun_mk ml_Rule_init mc_Rule_init mk_Rule_init, (fun_mk (st := s_Rule_init) ml_Rule_init mc_Rule_init mk_Rule_init).binds fun _ _ _ _ _ _ => ar3 fun _ _ _ => rfl⟩,
    fun D e => ns_one oa_CellRule e ▸ na_CellRule_sign,
    fun D e => ns_one oa_CellRule e ▸ na_CellRule_name,
    fun D e => ns_one oa_CellRule e ▸ na_CellRule_cost,
    ⟨O_CellRule, g_CellRule_init, _, oa_CellRule, ⟨ma_CellRule_init, mf_CellRule_init, mk_CellRule_init⟩, fun_mk ml_CellRule_init mc_CellRule_init mk_CellRule_init, (fun_mk (st := s_CellRule_init) ml_CellRule_init mc_CellRule_init mk_CellRule_init).binds fun _ _ _ _ _ _ => ar4 fun _ _ _ _ => rfl⟩,
    ⟨O_CellRule, g_CellRule_told, _, oa_CellRule, ⟨ma_CellRule_told, mf_CellRule_told, mk_CellRule_told⟩, fun_mk ml_CellRule_told mc_CellRule_told mk_CellRule_told, (fun_mk (st := s_CellRule_told) ml_CellRule_told mc_CellRule_told mk_CellRule_told).binds fun _ _ _ _ _ _ => ar1 fun _ => rfl⟩,
    ⟨O_CellRule, g_Rule_parts, _, oa_CellRule, ⟨ma_CellRule_parts, mf_Rule_parts, mk_Rule_parts⟩, fun_mk ml_Rule_parts mc_Rule_parts mk_Rule_parts, (fun_mk (st := s_Rule_parts) ml_Rule_parts mc_Rule_parts mk_Rule_parts).binds fun _ _ _ _ _ _ => ar1 fun _ => rfl⟩,
    ⟨O_CellRule, g_Rule_begun, _, oa_CellRule, ⟨ma_CellRule_begun, mf_Rule_begun, mk_Rule_begun⟩, fun_mk ml_Rule_begun mc_Rule_begun mk_Rule_begun, (fun_mk (st := s_Rule_begun) ml_Rule_begun mc_Rule_begun mk_Rule_begun).binds fun _ _ _ _ _ _ => ar1 fun _ => rfl⟩,
    fun D e => ns_one oa_BesideRule e ▸ na_BesideRule_one,
    fun D e => ns_one oa_BesideRule e ▸ na_BesideRule_other,
    fun D e => ns_one oa_BesideRule e ▸ na_BesideRule_name,
    fun D e => ns_one oa_BesideRule e ▸ na_BesideRule_cost,
    ⟨O_BesideRule, g_BesideRule_init, _, oa_BesideRule, ⟨ma_BesideRule_init, mf_BesideRule_init, mk_BesideRule_init⟩, fun_mk ml_BesideRule_init mc_BesideRule_init mk_BesideRule_init, (fun_mk (st := s_BesideRule_init) ml_BesideRule_init mc_BesideRule_init mk_BesideRule_init).binds fun _ _ _ _ _ _ => ar5 fun _ _ _ _ _ => rfl⟩,
    ⟨O_BesideRule, g_BesideRule_parts, _, oa_BesideRule, ⟨ma_BesideRule_parts, mf_BesideRule_parts, mk_BesideRule_parts⟩, fun_mk ml_BesideRule_parts mc_BesideRule_parts mk_BesideRule_parts, (fun_mk (st := s_BesideRule_parts) ml_BesideRule_parts mc_BesideRule_parts mk_BesideRule_parts).binds fun _ _ _ _ _ _ => ar1 fun _ => rfl⟩,
    ⟨O_BesideRule, g_BesideRule_told, _, oa_BesideRule, ⟨ma_BesideRule_told, mf_BesideRule_told, mk_BesideRule_told⟩, fun_mk ml_BesideRule_told mc_BesideRule_told mk_BesideRule_told, (fun_mk (st := s_BesideRule_told) ml_BesideRule_told mc_BesideRule_told mk_BesideRule_told).binds fun _ _ _ _ _ _ => ar1 fun _ => rfl⟩,
    ⟨O_BesideRule, g_Rule_begun, _, oa_BesideRule, ⟨ma_BesideRule_begun, mf_Rule_begun, mk_Rule_begun⟩, fun_mk ml_Rule_begun mc_Rule_begun mk_Rule_begun, (fun_mk (st := s_Rule_begun) ml_Rule_begun mc_Rule_begun mk_Rule_begun).binds fun _ _ _ _ _ _ => ar1 fun _ => rfl⟩,
    fun D e => ns_one oa_AboveRule e ▸ na_AboveRule_one,
    fun D e => ns_one oa_AboveRule e ▸ na_AboveRule_other,
    fun D e => ns_one oa_AboveRule e ▸ na_AboveRule_name,
    fun D e => ns_one oa_AboveRule e ▸ na_AboveRule_cost,
    ⟨O_AboveRule, g_AboveRule_init, _, oa_AboveRule, ⟨ma_AboveRule_init, mf_AboveRule_init, mk_AboveRule_init⟩, fun_mk ml_AboveRule_init mc_AboveRule_init mk_AboveRule_init, (fun_mk (st := s_AboveRule_init) ml_AboveRule_init mc_AboveRule_init mk_AboveRule_init).binds fun _ _ _ _ _ _ => ar5 fun _ _ _ _ _ => rfl⟩,
    ⟨O_AboveRule, g_AboveRule_parts, _, oa_AboveRule, ⟨ma_AboveRule_parts, mf_AboveRule_parts, mk_AboveRule_parts⟩, fun_mk ml_AboveRule_parts mc_AboveRule_parts mk_AboveRule_parts, (fun_mk (st := s_AboveRule_parts) ml_AboveRule_parts mc_AboveRule_parts mk_AboveRule_parts).binds fun _ _ _ _ _ _ => ar1 fun _ => rfl⟩,
    ⟨O_AboveRule, g_AboveRule_told, _, oa_AboveRule, ⟨ma_AboveRule_told, mf_AboveRule_told, mk_AboveRule_told⟩, fun_mk ml_AboveRule_told mc_AboveRule_told mk_AboveRule_told, (fun_mk (st := s_AboveRule_told) ml_AboveRule_told mc_AboveRule_told mk_AboveRule_told).binds fun _ _ _ _ _ _ => ar1 fun _ => rfl⟩,
    ⟨O_AboveRule, g_Rule_begun, _, oa_AboveRule, ⟨ma_AboveRule_begun, mf_Rule_begun, mk_Rule_begun⟩, fun_mk ml_Rule_begun mc_Rule_begun mk_Rule_begun, (fun_mk (st := s_Rule_begun) ml_Rule_begun mc_Rule_begun mk_Rule_begun).binds fun _ _ _ _ _ _ => ar1 fun _ => rfl⟩,
    fun D e => ns_one oa_TurnRule e ▸ na_TurnRule_part,
    fun D e => ns_one oa_TurnRule e ▸ na_TurnRule_turning,
    fun D e => ns_one oa_TurnRule e ▸ na_TurnRule_name,
    fun D e => ns_one oa_TurnRule e ▸ na_TurnRule_cost,
    ⟨O_TurnRule, g_TurnRule_init, _, oa_TurnRule, ⟨ma_TurnRule_init, mf_TurnRule_init, mk_TurnRule_init⟩, fun_mk ml_TurnRule_init mc_TurnRule_init mk_TurnRule_init, (fun_mk (st := s_TurnRule_init) ml_TurnRule_init mc_TurnRule_init mk_TurnRule_init).binds fun _ _ _ _ _ _ => ar5 fun _ _ _ _ _ => rfl⟩,
    ⟨O_TurnRule, g_TurnRule_parts, _, oa_TurnRule, ⟨ma_TurnRule_parts, mf_TurnRule_parts, mk_TurnRule_parts⟩, fun_mk ml_TurnRule_parts mc_TurnRule_parts mk_TurnRule_parts, (fun_mk (st := s_TurnRule_parts) ml_TurnRule_parts mc_TurnRule_parts mk_TurnRule_parts).binds fun _ _ _ _ _ _ => ar1 fun _ => rfl⟩,
    ⟨O_TurnRule, g_TurnRule_told, _, oa_TurnRule, ⟨ma_TurnRule_told, mf_TurnRule_told, mk_TurnRule_told⟩, fun_mk ml_TurnRule_told mc_TurnRule_told mk_TurnRule_told, (fun_mk (st := s_TurnRule_told) ml_TurnRule_told mc_TurnRule_told mk_TurnRule_told).binds fun _ _ _ _ _ _ => ar1 fun _ => rfl⟩,
    ⟨O_TurnRule, g_Rule_begun, _, oa_TurnRule, ⟨ma_TurnRule_begun, mf_Rule_begun, mk_Rule_begun⟩, fun_mk ml_Rule_begun mc_Rule_begun mk_Rule_begun, (fun_mk (st := s_Rule_begun) ml_Rule_begun mc_Rule_begun mk_Rule_begun).binds fun _ _ _ _ _ _ => ar1 fun _ => rfl⟩,
    fun D e => ns_one oa_Grammar e ▸ na_Grammar_signs,
    fun D e => ns_one oa_Grammar e ▸ na_Grammar_start,
    fun D e => ns_one oa_Grammar e ▸ na_Grammar_kept_rules,
    fun D e => ns_one oa_Grammar e ▸ na_Grammar_kept_names,
    ⟨O_Grammar, g_Grammar_init, _, oa_Grammar, ⟨ma_Grammar_init, mf_Grammar_init, mk_Grammar_init⟩, fun_mk ml_Grammar_init mc_Grammar_init mk_Grammar_init, (fun_mk (st := s_Grammar_init) ml_Grammar_init mc_Grammar_init mk_Grammar_init).binds fun _ _ _ _ _ _ => ar4 fun _ _ _ _ => rfl⟩,
    ⟨O_Grammar, g_Grammar_rules, _, oa_Grammar, ⟨ma_Grammar_rules, mf_Grammar_rules, mk_Grammar_rules⟩, fun_mk ml_Grammar_rules mc_Grammar_rules mk_Grammar_rules, (fun_mk (st := s_Grammar_rules) ml_Grammar_rules mc_Grammar_rules mk_Grammar_rules).binds fun _ _ _ _ _ _ => ar1 fun _ => rfl⟩,
    ⟨O_Grammar, g_Grammar_rule, _, oa_Grammar, ⟨ma_Grammar_rule, mf_Grammar_rule, mk_Grammar_rule⟩, fun_mk ml_Grammar_rule mc_Grammar_rule mk_Grammar_rule, (fun_mk (st := s_Grammar_rule) ml_Grammar_rule mc_Grammar_rule mk_Grammar_rule).binds fun _ _ _ _ _ _ => ar2 fun _ _ => rfl⟩,
    ⟨O_Grammar, g_Grammar_names, _, oa_Grammar, ⟨ma_Grammar_names, mf_Grammar_names, mk_Grammar_names⟩, fun_mk ml_Grammar_names mc_Grammar_names mk_Grammar_names, (fun_mk (st := s_Grammar_names) ml_Grammar_names mc_Grammar_names mk_Grammar_names).binds fun _ _ _ _ _ _ => ar1 fun _ => rfl⟩,
    ⟨O_Grammar, g_Grammar_numbers_of, _, oa_Grammar, ⟨ma_Grammar_numbers_of, mf_Grammar_numbers_of, mk_Grammar_numbers_of⟩, fun_mk ml_Grammar_numbers_of mc_Grammar_numbers_of mk_Grammar_numbers_of, (fun_mk (st := s_Grammar_numbers_of) ml_Grammar_numbers_of mc_Grammar_numbers_of mk_Grammar_numbers_of).binds fun _ _ _ _ _ _ => ar2 fun _ _ => rfl⟩,
    ⟨O_Grammar, g_Grammar_told, _, oa_Grammar, ⟨ma_Grammar_told, mf_Grammar_told, mk_Grammar_told⟩, fun_mk ml_Grammar_told mc_Grammar_told mk_Grammar_told, (fun_mk (st := s_Grammar_told) ml_Grammar_told mc_Grammar_told mk_Grammar_told).binds fun _ _ _ _ _ _ => ar1 fun _ => rfl⟩,
    CInit.mk oa_Rule ma_Rule_init ia_Rule ib_Rule ic_Rule,
    OSub.mk oa_CellRule oa_CellRule oh_CellRule oc_CellRule ou_CellRule_CellRule (fun _ => rfl),
    OSub.mk oa_CellRule oa_TurnRule oh_TurnRule oc_TurnRule ou_CellRule_TurnRule (fun e => absurd e ov_CellRule_TurnRule),
    OSub.mk oa_CellRule oa_BesideRule oh_BesideRule oc_BesideRule ou_CellRule_BesideRule (fun e => absurd e ov_CellRule_BesideRule),
    OSub.mk oa_BesideRule oa_CellRule oh_CellRule oc_CellRule ou_BesideRule_CellRule (fun e => absurd e ov_BesideRule_CellRule),
    OSub.mk oa_BesideRule oa_TurnRule oh_TurnRule oc_TurnRule ou_BesideRule_TurnRule (fun e => absurd e ov_BesideRule_TurnRule),
    OSub.mk oa_BesideRule oa_BesideRule oh_BesideRule oc_BesideRule ou_BesideRule_BesideRule (fun _ => rfl),
    OSub.mk oa_AboveRule oa_CellRule oh_CellRule oc_CellRule ou_AboveRule_CellRule (fun e => absurd e ov_AboveRule_CellRule),
    OSub.mk oa_AboveRule oa_TurnRule oh_TurnRule oc_TurnRule ou_AboveRule_TurnRule (fun e => absurd e ov_AboveRule_TurnRule),
    OSub.mk oa_AboveRule oa_BesideRule oh_BesideRule oc_BesideRule ou_AboveRule_BesideRule (fun e => absurd e ov_AboveRule_BesideRule),
    OSub.mk oa_TurnRule oa_CellRule oh_CellRule oc_CellRule ou_TurnRule_CellRule (fun e => absurd e ov_TurnRule_CellRule),
    OSub.mk oa_TurnRule oa_TurnRule oh_TurnRule oc_TurnRule ou_TurnRule_TurnRule (fun _ => rfl),
    OSub.mk oa_TurnRule oa_BesideRule oh_BesideRule oc_BesideRule ou_TurnRule_BesideRule (fun e => absurd e ov_TurnRule_BesideRule),
    OSub.mk oa_Grammar oa_CellRule oh_CellRule oc_CellRule ou_Grammar_CellRule (fun e => absurd e ov_Grammar_CellRule),
    OSub.mk oa_Grammar oa_TurnRule oh_TurnRule oc_TurnRule ou_Grammar_TurnRule (fun e => absurd e ov_Grammar_TurnRule),
    OSub.mk oa_Grammar oa_BesideRule oh_BesideRule oc_BesideRule ou_Grammar_BesideRule (fun e => absurd e ov_Grammar_BesideRule),
    df_of X G a_size_of l_size_of c_size_of k_size_of fun _ _ _ _ _ _ => ar1 fun _ => rfl,
    df_of X G a_shown l_shown c_shown k_shown fun _ _ _ _ _ _ => ar1 fun _ => rfl,
    df_of X G a_windows_of l_windows_of c_windows_of k_windows_of fun _ _ _ _ _ _ => ar2 fun _ _ => rfl,
    df_of X G a_cut_out l_cut_out c_cut_out k_cut_out fun _ _ _ _ _ _ => ar2 fun _ _ => rfl,
    df_of X G a_beside l_beside c_beside k_beside fun _ _ _ _ _ _ => ar2 fun _ _ => rfl,
    df_of X G a_above l_above c_above k_above fun _ _ _ _ _ _ => ar2 fun _ _ => rfl,
    df_of X G a_parted l_parted c_parted k_parted fun _ _ _ _ _ _ => ar3 fun _ _ _ => rfl,
    df_of X G a_quarter l_quarter c_quarter k_quarter fun _ _ _ _ _ _ => ar1 fun _ => rfl,
    df_of X G a_mirrored l_mirrored c_mirrored k_mirrored fun _ _ _ _ _ _ => ar1 fun _ => rfl,
    df_of X G a_turned l_turned c_turned k_turned fun _ _ _ _ _ _ => ar2 fun _ _ => rfl,
    df_of X G a_after l_after c_after k_after fun _ _ _ _ _ _ => ar2 fun _ _ => rfl,
    df_of X G a_back l_back c_back k_back fun _ _ _ _ _ _ => ar1 fun _ => rfl,
    df_of X G a_many_cells l_many_cells c_many_cells k_many_cells fun _ _ _ _ _ _ => ar1 fun _ => rfl,
    df_of X G a_seen_in l_seen_in c_seen_in k_seen_in fun _ _ _ _ _ _ => ar1 fun _ => rfl,
    df_of X G a_is_name l_is_name c_is_name k_is_name fun _ _ _ _ _ _ => ar1 fun _ => rfl,
    df_of X G a_asked_name l_asked_name c_asked_name k_asked_name fun _ _ _ _ _ _ => ar1 fun _ => rfl,
    df_of X G a_turned_pair l_turned_pair c_turned_pair k_turned_pair fun _ _ _ _ _ _ => ar4 fun _ _ _ _ => rfl,
    df_of X G a_name_in l_name_in c_name_in k_name_in fun _ _ _ _ _ _ => ar2 fun _ _ => rfl,
    df_of X G a_uses_for l_uses_for c_uses_for k_uses_for fun _ _ _ _ _ _ => ar2 fun _ _ => rfl,
    df_of X G a_cost_by l_cost_by c_cost_by k_cost_by fun _ _ _ _ _ _ => ar3 fun _ _ _ => rfl,
    df_of X G a_lowered l_lowered c_lowered k_lowered fun _ _ _ _ _ _ => ar3 fun _ _ _ => rfl,
    df_of X G a_settle l_settle c_settle k_settle fun _ _ _ _ _ _ => ar3 fun _ _ _ => rfl,
    df_of X G a_cells_in l_cells_in c_cells_in k_cells_in fun _ _ _ _ _ _ => ar1 fun _ => rfl,
    df_of X G a_table_of l_table_of c_table_of k_table_of fun _ _ _ _ _ _ => ar2 fun _ _ => rfl,
    df_of X G a_numbers_in l_numbers_in c_numbers_in k_numbers_in fun _ _ _ _ _ _ => ar1 fun _ => rfl,
    df_of X G a_first_use l_first_use c_first_use k_first_use fun _ _ _ _ _ _ => ar4 fun _ _ _ _ => rfl,
    df_of X G a_grown l_grown c_grown k_grown fun _ _ _ _ _ _ => ar5 fun _ _ _ _ _ => rfl,
    dfD_of X G a_first_tree l_first_tree t_first_tree c_first_tree k_first_tree (by decide) (fun _ _ _ _ _ _ _ _ us hl => match us, hl with | [_, _, _], _ => ⟨_, rfl, rfl⟩) (fun _ _ _ _ _ _ _ _ us hl => match us, hl with | [_, _], _ => ⟨_, rfl, rfl⟩),
    df_of X G a_are_signs l_are_signs c_are_signs k_are_signs fun _ _ _ _ _ _ => ar1 fun _ => rfl,
    df_of X G a_names_met l_names_met c_names_met k_names_met fun _ _ _ _ _ _ => ar2 fun _ _ => rfl,
    df_of X G a_asked_rules l_asked_rules c_asked_rules k_asked_rules fun _ _ _ _ _ _ => ar2 fun _ _ => rfl,
    df_of X G a_law_cell l_law_cell c_law_cell k_law_cell fun _ _ _ _ _ _ => ar2 fun _ _ => rfl,
    df_of X G a_law_signs l_law_signs c_law_signs k_law_signs fun _ _ _ _ _ _ => ar2 fun _ _ => rfl,
    df_of X G a_law_grammar l_law_grammar c_law_grammar k_law_grammar fun _ _ _ _ _ _ => ar3 fun _ _ _ => rfl,
    df_of X G a_law_numbers l_law_numbers c_law_numbers k_law_numbers fun _ _ _ _ _ _ => ar1 fun _ => rfl,
    df_of X G a_law_deep l_law_deep c_law_deep k_law_deep fun _ _ _ _ _ _ => ar1 fun _ => rfl,
    df_of X G a_law_asked l_law_asked c_law_asked k_law_asked fun _ _ _ _ _ _ => ar2 fun _ _ => rfl,
    df_of X G a_law_sheet l_law_sheet c_law_sheet k_law_sheet fun _ _ _ _ _ _ => ar2 fun _ _ => rfl,
    df_of X G a_law_line l_law_line c_law_line k_law_line fun _ _ _ _ _ _ => ar2 fun _ _ => rfl,
    df_of X G a_law_corner l_law_corner c_law_corner k_law_corner fun _ _ _ _ _ _ => ar2 fun _ _ => rfl⟩
theorem all_mk {l : PySem.W.OpenLaw} {w : World} {K : PySem.W.Frag} {h : Heap} {mg : Str → Option Value} {fa : Addr} (X : K.In h) (G : h.Ns mainGlobals mg) (hfa : mg "law" = some (.ref fa)) (T : Txt K mg)
    {f_law : Addr} {od_law an_law : Option Addr} {sl_law : Array (Option Value)} {oc_law kV_law dc_law pm_law cd_law ct_law : Value} (a_law : PySem.W.nsIn K mainGlobals "law" = some (some (.ref f_law))) (l_law : K.lookup f_law = some ⟨oc_law, od_law, .func (PySem.W.fnOf "law" "law" (defArgs s_law) (defBody s_law) (defScope s_law) .none kV_law dc_law pm_law an_law cd_law ct_law), sl_law⟩) (c_law : PySem.W.codeIn K cd_law "law" = true) (k_law : PySem.W.keepIn K (.ref f_law) = true) :
    ∃ fd : FuncData, (∀ (s : Shared) (v : Value), BindsTo s fd ⟨[v], []⟩ [("_law_script", v)]) ∧ ∀ base : Heap, K.In base → base.Ns mainGlobals mg → FnOk l.prog w K mg base (L2.CX l.prog w) 95 fa fd ["_law_script"] (spOf K lawS) := by
  have e := hfa.symm.trans (PySem.W.mg_of X G a_law)
  cases e
  exact ⟨PySem.W.fnOf "law" "law" (defArgs s_law) (defBody s_law) (defScope s_law) .none kV_law dc_law pm_law an_law cd_law ct_law, fun s v => .of_eq rfl, fun base _ _ => law_fn (fun_mk l_law c_law k_law) sc_law (body_law T)⟩
end Law
open PySem PySem.W PyProof.Rows
set_option maxRecDepth 100000 in
set_option maxHeartbeats 0 in
theorem PySem.Challenge.cw_quiltlaw_k27_trees_too_large_holds : PySem.Challenge.rw_quiltlaw_k27_trees_too_large.Holds := by
  w_on; o_law; k_head; (case hw => w_witness2)
  k_fill
  refine L2.walk_of (l := PySem.Challenge.rw_quiltlaw_k27_trees_too_large) (n := 63) (k := 95) (x := "_law_script") (CX := fun w => L2.CX PySem.Challenge.rw_quiltlaw_k27_trees_too_large.prog w) (sp := fun w => Tw.spOf _ Tw.lawS) rfl (by decide) rfl ⟨rfl, by decide, by decide⟩ (fun w h Y => PySem.W.kIn_of Y) ?F (fun _ H a ns hl _ hS => Tw.law_sp _ H a ns hl hS) (fun w H s e s' => Tw.hCX0 _ w H s e s')
  case F =>
    intro w mg fa h KX G hmg
    refine' Law.all_mk KX G hmg (Law.txt_mk KX G ?zb_ValueError ?zb_all ?zb_bool ?zb_enumerate ?zb_int ?zb_isinstance ?zb_len ?zb_list ?zb_max ?zb_range ?zb_reversed ?zb_set ?zb_sorted ?zb_str ?zb_tuple ?zb_zip ?zc_MOST ?zc_MIRROR ?zc_CAPITALS ?zc_SMALL ?zc_MOST_LETTERS ?zc_MOST_COST ?zc_MOST_NUMBERS ?zc_MOST_WITHIN ?zc_MOST_SIGNS ?zc_MOST_RULES ?zc_MOST_NAMES ?xn ?xq ?xa_QuiltError ?xk_QuiltError ?xt_QuiltError ?xg_QuiltError ?xh_QuiltError ?xs_QuiltError ?xd_QuiltError ?xc_QuiltError ?xm_QuiltError ?xa_NoFit ?xk_NoFit ?xt_NoFit ?xg_NoFit ?xh_NoFit ?xs_NoFit ?xd_NoFit ?xc_NoFit ?xm_NoFit ?xa_NoRule ?xk_NoRule ?xt_NoRule ?xg_NoRule ?xh_NoRule ?xs_NoRule ?xd_NoRule ?xc_NoRule ?xm_NoRule ?xa_NoGrammar ?xk_NoGrammar ?xt_NoGrammar ?xg_NoGrammar ?xh_NoGrammar ?xs_NoGrammar ?xd_NoGrammar ?xc_NoGrammar ?xm_NoGrammar ?xa_NoName ?xk_NoName ?xt_NoName ?xg_NoName ?xh_NoName ?xs_NoName ?xd_NoName ?xc_NoName ?xm_NoName ?xa_TooMany ?xk_TooMany ?xt_TooMany ?xg_TooMany ?xh_TooMany ?xs_TooMany ?xd_TooMany ?xc_TooMany ?xm_TooMany ?xa_NoNumber ?xk_NoNumber ?xt_NoNumber ?xg_NoNumber ?xh_NoNumber ?xs_NoNumber ?xd_NoNumber ?xc_NoNumber ?xm_NoNumber ?xp_NoFit ?xp_NoRule ?xp_NoName ?xp_TooMany ?xl_NoGrammar ?xv_NoGrammar ?xw_NoGrammar ?xf_NoGrammar ?xi_NoGrammar ?xj_NoGrammar ?xo_NoGrammar ?xu_NoGrammar ?xz_NoGrammar ?qs_QuiltError ?qr_QuiltError ?qf_QuiltError ?y_NoFit_QuiltError ?y_NoFit_TooMany ?d_NoFit_TooMany ?y_NoFit_NoFit ?y_NoFit_NoName ?d_NoFit_NoName ?y_NoFit_NoNumber ?d_NoFit_NoNumber ?y_NoRule_QuiltError ?y_NoRule_TooMany ?d_NoRule_TooMany ?y_NoRule_NoFit ?d_NoRule_NoFit ?y_NoRule_NoName ?d_NoRule_NoName ?y_NoRule_NoNumber ?d_NoRule_NoNumber ?y_NoName_QuiltError ?y_NoName_TooMany ?d_NoName_TooMany ?y_NoName_NoFit ?d_NoName_NoFit ?y_NoName_NoName ?y_NoName_NoNumber ?d_NoName_NoNumber ?y_TooMany_QuiltError ?y_TooMany_TooMany ?y_TooMany_NoFit ?d_TooMany_NoFit ?y_TooMany_NoName ?d_TooMany_NoName ?y_TooMany_NoNumber ?d_TooMany_NoNumber ?y_NoGrammar_QuiltError ?y_NoGrammar_TooMany ?d_NoGrammar_TooMany ?y_NoGrammar_NoFit ?d_NoGrammar_NoFit ?y_NoGrammar_NoName ?d_NoGrammar_NoName ?y_NoGrammar_NoNumber ?d_NoGrammar_NoNumber ?oa_Rule ?ob_Rule ?oc_Rule ?od_Rule ?oe_Rule ?of_Rule ?og_Rule ?oh_Rule ?oi_Rule ?oj_Rule ?oa_CellRule ?ob_CellRule ?oc_CellRule ?od_CellRule ?oe_CellRule ?of_CellRule ?og_CellRule ?oh_CellRule ?oi_CellRule ?oj_CellRule ?oa_BesideRule ?ob_BesideRule ?oc_BesideRule ?od_BesideRule ?oe_BesideRule ?of_BesideRule ?og_BesideRule ?oh_BesideRule ?oi_BesideRule ?oj_BesideRule ?oa_AboveRule ?ob_AboveRule ?oc_AboveRule ?od_AboveRule ?oe_AboveRule ?of_AboveRule ?og_AboveRule ?oh_AboveRule ?oi_AboveRule ?oj_AboveRule ?oa_TurnRule ?ob_TurnRule ?oc_TurnRule ?od_TurnRule ?oe_TurnRule ?of_TurnRule ?og_TurnRule ?oh_TurnRule ?oi_TurnRule ?oj_TurnRule ?oa_Grammar ?ob_Grammar ?oc_Grammar ?od_Grammar ?oe_Grammar ?of_Grammar ?og_Grammar ?oh_Grammar ?oi_Grammar ?oj_Grammar ?na_Rule_name ?na_Rule_cost ?ma_Rule_init ?ml_Rule_init ?mc_Rule_init ?mk_Rule_init ?mf_Rule_init ?na_CellRule_sign ?na_CellRule_name ?na_CellRule_cost ?ma_CellRule_init ?ml_CellRule_init ?mc_CellRule_init ?mk_CellRule_init ?mf_CellRule_init ?ma_CellRule_told ?ml_CellRule_told ?mc_CellRule_told ?mk_CellRule_told ?mf_CellRule_told ?ma_CellRule_parts ?ml_Rule_parts ?mc_Rule_parts ?mk_Rule_parts ?mf_Rule_parts ?ma_CellRule_begun ?ml_Rule_begun ?mc_Rule_begun ?mk_Rule_begun ?mf_Rule_begun ?na_BesideRule_one ?na_BesideRule_other ?na_BesideRule_name ?na_BesideRule_cost ?ma_BesideRule_init ?ml_BesideRule_init ?mc_BesideRule_init ?mk_BesideRule_init ?mf_BesideRule_init ?ma_BesideRule_parts ?ml_BesideRule_parts ?mc_BesideRule_parts ?mk_BesideRule_parts ?mf_BesideRule_parts ?ma_BesideRule_told ?ml_BesideRule_told ?mc_BesideRule_told ?mk_BesideRule_told ?mf_BesideRule_told ?ma_BesideRule_begun ?na_AboveRule_one ?na_AboveRule_other ?na_AboveRule_name ?na_AboveRule_cost ?ma_AboveRule_init ?ml_AboveRule_init ?mc_AboveRule_init ?mk_AboveRule_init ?mf_AboveRule_init ?ma_AboveRule_parts ?ml_AboveRule_parts ?mc_AboveRule_parts ?mk_AboveRule_parts ?mf_AboveRule_parts ?ma_AboveRule_told ?ml_AboveRule_told ?mc_AboveRule_told ?mk_AboveRule_told ?mf_AboveRule_told ?ma_AboveRule_begun ?na_TurnRule_part ?na_TurnRule_turning ?na_TurnRule_name ?na_TurnRule_cost ?ma_TurnRule_init ?ml_TurnRule_init ?mc_TurnRule_init ?mk_TurnRule_init ?mf_TurnRule_init ?ma_TurnRule_parts ?ml_TurnRule_parts ?mc_TurnRule_parts ?mk_TurnRule_parts ?mf_TurnRule_parts ?ma_TurnRule_told ?ml_TurnRule_told ?mc_TurnRule_told ?mk_TurnRule_told ?mf_TurnRule_told ?ma_TurnRule_begun ?na_Grammar_signs ?na_Grammar_start ?na_Grammar_kept_rules ?na_Grammar_kept_names ?ma_Grammar_init ?ml_Grammar_init ?mc_Grammar_init ?mk_Grammar_init ?mf_Grammar_init ?ma_Grammar_rules ?ml_Grammar_rules ?mc_Grammar_rules ?mk_Grammar_rules ?mf_Grammar_rules ?ma_Grammar_rule ?ml_Grammar_rule ?mc_Grammar_rule ?mk_Grammar_rule ?mf_Grammar_rule ?ma_Grammar_names ?ml_Grammar_names ?mc_Grammar_names ?mk_Grammar_names ?mf_Grammar_names ?ma_Grammar_numbers_of ?ml_Grammar_numbers_of ?mc_Grammar_numbers_of ?mk_Grammar_numbers_of ?mf_Grammar_numbers_of ?ma_Grammar_told ?ml_Grammar_told ?mc_Grammar_told ?mk_Grammar_told ?mf_Grammar_told ?ia_Rule ?ib_Rule ?ic_Rule ?ou_CellRule_CellRule ?ou_CellRule_TurnRule ?ov_CellRule_TurnRule ?ou_CellRule_BesideRule ?ov_CellRule_BesideRule ?ou_BesideRule_CellRule ?ov_BesideRule_CellRule ?ou_BesideRule_TurnRule ?ov_BesideRule_TurnRule ?ou_BesideRule_BesideRule ?ou_AboveRule_CellRule ?ov_AboveRule_CellRule ?ou_AboveRule_TurnRule ?ov_AboveRule_TurnRule ?ou_AboveRule_BesideRule ?ov_AboveRule_BesideRule ?ou_TurnRule_CellRule ?ov_TurnRule_CellRule ?ou_TurnRule_TurnRule ?ou_TurnRule_BesideRule ?ov_TurnRule_BesideRule ?ou_Grammar_CellRule ?ov_Grammar_CellRule ?ou_Grammar_TurnRule ?ov_Grammar_TurnRule ?ou_Grammar_BesideRule ?ov_Grammar_BesideRule ?a_size_of ?l_size_of ?c_size_of ?k_size_of ?a_shown ?l_shown ?c_shown ?k_shown ?a_windows_of ?l_windows_of ?c_windows_of ?k_windows_of ?a_cut_out ?l_cut_out ?c_cut_out ?k_cut_out ?a_beside ?l_beside ?c_beside ?k_beside ?a_above ?l_above ?c_above ?k_above ?a_parted ?l_parted ?c_parted ?k_parted ?a_quarter ?l_quarter ?c_quarter ?k_quarter ?a_mirrored ?l_mirrored ?c_mirrored ?k_mirrored ?a_turned ?l_turned ?c_turned ?k_turned ?a_after ?l_after ?c_after ?k_after ?a_back ?l_back ?c_back ?k_back ?a_many_cells ?l_many_cells ?c_many_cells ?k_many_cells ?a_seen_in ?l_seen_in ?c_seen_in ?k_seen_in ?a_is_name ?l_is_name ?c_is_name ?k_is_name ?a_asked_name ?l_asked_name ?c_asked_name ?k_asked_name ?a_turned_pair ?l_turned_pair ?c_turned_pair ?k_turned_pair ?a_name_in ?l_name_in ?c_name_in ?k_name_in ?a_uses_for ?l_uses_for ?c_uses_for ?k_uses_for ?a_cost_by ?l_cost_by ?c_cost_by ?k_cost_by ?a_lowered ?l_lowered ?c_lowered ?k_lowered ?a_settle ?l_settle ?c_settle ?k_settle ?a_cells_in ?l_cells_in ?c_cells_in ?k_cells_in ?a_table_of ?l_table_of ?c_table_of ?k_table_of ?a_numbers_in ?l_numbers_in ?c_numbers_in ?k_numbers_in ?a_first_use ?l_first_use ?c_first_use ?k_first_use ?a_grown ?l_grown ?c_grown ?k_grown ?a_first_tree ?l_first_tree ?c_first_tree ?k_first_tree ?t_first_tree ?a_are_signs ?l_are_signs ?c_are_signs ?k_are_signs ?a_names_met ?l_names_met ?c_names_met ?k_names_met ?a_asked_rules ?l_asked_rules ?c_asked_rules ?k_asked_rules ?a_law_cell ?l_law_cell ?c_law_cell ?k_law_cell ?a_law_signs ?l_law_signs ?c_law_signs ?k_law_signs ?a_law_grammar ?l_law_grammar ?c_law_grammar ?k_law_grammar ?a_law_numbers ?l_law_numbers ?c_law_numbers ?k_law_numbers ?a_law_deep ?l_law_deep ?c_law_deep ?k_law_deep ?a_law_asked ?l_law_asked ?c_law_asked ?k_law_asked ?a_law_sheet ?l_law_sheet ?c_law_sheet ?k_law_sheet ?a_law_line ?l_law_line ?c_law_line ?k_law_line ?a_law_corner ?l_law_corner ?c_law_corner ?k_law_corner) ?a_law ?l_law ?c_law ?k_law
    (case zb_ValueError => k_is)
    (case zb_all => k_is)
    (case zb_bool => k_is)
    (case zb_enumerate => k_is)
    (case zb_int => k_is)
    (case zb_isinstance => k_is)
    (case zb_len => k_is)
    (case zb_list => k_is)
    (case zb_max => k_is)
    (case zb_range => k_is)
    (case zb_reversed => k_is)
    (case zb_set => k_is)
    (case zb_sorted => k_is)
    (case zb_str => k_is)
    (case zb_tuple => k_is)
    (case zb_zip => k_is)
    (case zc_MOST => k_is)
    (case zc_MIRROR => k_is)
    (case zc_CAPITALS => k_is)
    (case zc_SMALL => k_is)
    (case zc_MOST_LETTERS => k_is)
    (case zc_MOST_COST => k_is)
    (case zc_MOST_NUMBERS => k_is)
    (case zc_MOST_WITHIN => k_is)
    (case zc_MOST_SIGNS => k_is)
    (case zc_MOST_RULES => k_is)
    (case zc_MOST_NAMES => k_is)
    (case xn => k_is)
    (case xq => k_is)
    (case xa_QuiltError => k_is)
    (case xk_QuiltError => k_is)
    (case xt_QuiltError => k_is)
    (case xg_QuiltError => k_is)
    (case xh_QuiltError => k_is)
    (case xs_QuiltError => k_is)
    (case xd_QuiltError => k_is)
    (case xc_QuiltError => k_is)
    (case xm_QuiltError => k_is)
    (case xa_NoFit => k_is)
    (case xk_NoFit => k_is)
    (case xt_NoFit => k_is)
    (case xg_NoFit => k_is)
    (case xh_NoFit => k_is)
    (case xs_NoFit => k_is)
    (case xd_NoFit => k_is)
    (case xc_NoFit => k_is)
    (case xm_NoFit => k_is)
    (case xa_NoRule => k_is)
    (case xk_NoRule => k_is)
    (case xt_NoRule => k_is)
    (case xg_NoRule => k_is)
    (case xh_NoRule => k_is)
    (case xs_NoRule => k_is)
    (case xd_NoRule => k_is)
    (case xc_NoRule => k_is)
    (case xm_NoRule => k_is)
    (case xa_NoGrammar => k_is)
    (case xk_NoGrammar => k_is)
    (case xt_NoGrammar => k_is)
    (case xg_NoGrammar => k_is)
    (case xh_NoGrammar => k_is)
    (case xs_NoGrammar => k_is)
    (case xd_NoGrammar => k_is)
    (case xc_NoGrammar => k_is)
    (case xm_NoGrammar => k_is)
    (case xa_NoName => k_is)
    (case xk_NoName => k_is)
    (case xt_NoName => k_is)
    (case xg_NoName => k_is)
    (case xh_NoName => k_is)
    (case xs_NoName => k_is)
    (case xd_NoName => k_is)
    (case xc_NoName => k_is)
    (case xm_NoName => k_is)
    (case xa_TooMany => k_is)
    (case xk_TooMany => k_is)
    (case xt_TooMany => k_is)
    (case xg_TooMany => k_is)
    (case xh_TooMany => k_is)
    (case xs_TooMany => k_is)
    (case xd_TooMany => k_is)
    (case xc_TooMany => k_is)
    (case xm_TooMany => k_is)
    (case xa_NoNumber => k_is)
    (case xk_NoNumber => k_is)
    (case xt_NoNumber => k_is)
    (case xg_NoNumber => k_is)
    (case xh_NoNumber => k_is)
    (case xs_NoNumber => k_is)
    (case xd_NoNumber => k_is)
    (case xc_NoNumber => k_is)
    (case xm_NoNumber => k_is)
    (case xp_NoFit => k_exc)
    (case xp_NoRule => k_exc)
    (case xp_NoName => k_exc)
    (case xp_TooMany => k_exc)
    (case xl_NoGrammar => k_is)
    (case xv_NoGrammar => decide +kernel)
    (case xw_NoGrammar => k_is)
    (case xf_NoGrammar => k_is)
    (case xi_NoGrammar => k_is)
    (case xj_NoGrammar => k_is)
    (case xo_NoGrammar => k_is)
    (case xu_NoGrammar => k_is)
    (case xz_NoGrammar => k_is)
    (case qs_QuiltError => k_is)
    (case qr_QuiltError => k_is)
    (case qf_QuiltError => k_is)
    (case y_NoFit_QuiltError => k_is)
    (case y_NoFit_TooMany => k_is)
    (case d_NoFit_TooMany => decide)
    (case y_NoFit_NoFit => k_is)
    (case y_NoFit_NoName => k_is)
    (case d_NoFit_NoName => decide)
    (case y_NoFit_NoNumber => k_is)
    (case d_NoFit_NoNumber => decide)
    (case y_NoRule_QuiltError => k_is)
    (case y_NoRule_TooMany => k_is)
    (case d_NoRule_TooMany => decide)
    (case y_NoRule_NoFit => k_is)
    (case d_NoRule_NoFit => decide)
    (case y_NoRule_NoName => k_is)
    (case d_NoRule_NoName => decide)
    (case y_NoRule_NoNumber => k_is)
    (case d_NoRule_NoNumber => decide)
    (case y_NoName_QuiltError => k_is)
    (case y_NoName_TooMany => k_is)
    (case d_NoName_TooMany => decide)
    (case y_NoName_NoFit => k_is)
    (case d_NoName_NoFit => decide)
    (case y_NoName_NoName => k_is)
    (case y_NoName_NoNumber => k_is)
    (case d_NoName_NoNumber => decide)
    (case y_TooMany_QuiltError => k_is)
    (case y_TooMany_TooMany => k_is)
    (case y_TooMany_NoFit => k_is)
    (case d_TooMany_NoFit => decide)
    (case y_TooMany_NoName => k_is)
    (case d_TooMany_NoName => decide)
    (case y_TooMany_NoNumber => k_is)
    (case d_TooMany_NoNumber => decide)
    (case y_NoGrammar_QuiltError => k_is)
    (case y_NoGrammar_TooMany => k_is)
    (case d_NoGrammar_TooMany => decide)
    (case y_NoGrammar_NoFit => k_is)
    (case d_NoGrammar_NoFit => decide)
    (case y_NoGrammar_NoName => k_is)
    (case d_NoGrammar_NoName => decide)
    (case y_NoGrammar_NoNumber => k_is)
    (case d_NoGrammar_NoNumber => decide)
    (case oa_Rule => k_is)
    (case ob_Rule => k_is)
    (case oc_Rule => k_is)
    (case od_Rule => k_is)
    (case oe_Rule => k_is)
    (case of_Rule => k_is)
    (case og_Rule => k_is)
    (case oh_Rule => k_is)
    (case oi_Rule => k_is)
    (case oj_Rule => k_is)
    (case oa_CellRule => k_is)
    (case ob_CellRule => k_is)
    (case oc_CellRule => k_is)
    (case od_CellRule => k_is)
    (case oe_CellRule => k_is)
    (case of_CellRule => k_is)
    (case og_CellRule => k_is)
    (case oh_CellRule => k_is)
    (case oi_CellRule => k_is)
    (case oj_CellRule => k_is)
    (case oa_BesideRule => k_is)
    (case ob_BesideRule => k_is)
    (case oc_BesideRule => k_is)
    (case od_BesideRule => k_is)
    (case oe_BesideRule => k_is)
    (case of_BesideRule => k_is)
    (case og_BesideRule => k_is)
    (case oh_BesideRule => k_is)
    (case oi_BesideRule => k_is)
    (case oj_BesideRule => k_is)
    (case oa_AboveRule => k_is)
    (case ob_AboveRule => k_is)
    (case oc_AboveRule => k_is)
    (case od_AboveRule => k_is)
    (case oe_AboveRule => k_is)
    (case of_AboveRule => k_is)
    (case og_AboveRule => k_is)
    (case oh_AboveRule => k_is)
    (case oi_AboveRule => k_is)
    (case oj_AboveRule => k_is)
    (case oa_TurnRule => k_is)
    (case ob_TurnRule => k_is)
    (case oc_TurnRule => k_is)
    (case od_TurnRule => k_is)
    (case oe_TurnRule => k_is)
    (case of_TurnRule => k_is)
    (case og_TurnRule => k_is)
    (case oh_TurnRule => k_is)
    (case oi_TurnRule => k_is)
    (case oj_TurnRule => k_is)
    (case oa_Grammar => k_is)
    (case ob_Grammar => k_is)
    (case oc_Grammar => k_is)
    (case od_Grammar => k_is)
    (case oe_Grammar => k_is)
    (case of_Grammar => k_is)
    (case og_Grammar => k_is)
    (case oh_Grammar => k_is)
    (case oi_Grammar => k_is)
    (case oj_Grammar => k_is)
    (case na_Rule_name => k_is)
    (case na_Rule_cost => k_is)
    (case ma_Rule_init => k_is)
    (case ml_Rule_init => k_is)
    (case mc_Rule_init => k_is)
    (case mk_Rule_init => k_is)
    (case mf_Rule_init => k_is)
    (case na_CellRule_sign => k_is)
    (case na_CellRule_name => k_is)
    (case na_CellRule_cost => k_is)
    (case ma_CellRule_init => k_is)
    (case ml_CellRule_init => k_is)
    (case mc_CellRule_init => k_is)
    (case mk_CellRule_init => k_is)
    (case mf_CellRule_init => k_is)
    (case ma_CellRule_told => k_is)
    (case ml_CellRule_told => k_is)
    (case mc_CellRule_told => k_is)
    (case mk_CellRule_told => k_is)
    (case mf_CellRule_told => k_is)
    (case ma_CellRule_parts => k_is)
    (case ml_Rule_parts => k_is)
    (case mc_Rule_parts => k_is)
    (case mk_Rule_parts => k_is)
    (case mf_Rule_parts => k_is)
    (case ma_CellRule_begun => k_is)
    (case ml_Rule_begun => k_is)
    (case mc_Rule_begun => k_is)
    (case mk_Rule_begun => k_is)
    (case mf_Rule_begun => k_is)
    (case na_BesideRule_one => k_is)
    (case na_BesideRule_other => k_is)
    (case na_BesideRule_name => k_is)
    (case na_BesideRule_cost => k_is)
    (case ma_BesideRule_init => k_is)
    (case ml_BesideRule_init => k_is)
    (case mc_BesideRule_init => k_is)
    (case mk_BesideRule_init => k_is)
    (case mf_BesideRule_init => k_is)
    (case ma_BesideRule_parts => k_is)
    (case ml_BesideRule_parts => k_is)
    (case mc_BesideRule_parts => k_is)
    (case mk_BesideRule_parts => k_is)
    (case mf_BesideRule_parts => k_is)
    (case ma_BesideRule_told => k_is)
    (case ml_BesideRule_told => k_is)
    (case mc_BesideRule_told => k_is)
    (case mk_BesideRule_told => k_is)
    (case mf_BesideRule_told => k_is)
    (case ma_BesideRule_begun => k_is)
    (case na_AboveRule_one => k_is)
    (case na_AboveRule_other => k_is)
    (case na_AboveRule_name => k_is)
    (case na_AboveRule_cost => k_is)
    (case ma_AboveRule_init => k_is)
    (case ml_AboveRule_init => k_is)
    (case mc_AboveRule_init => k_is)
    (case mk_AboveRule_init => k_is)
    (case mf_AboveRule_init => k_is)
    (case ma_AboveRule_parts => k_is)
    (case ml_AboveRule_parts => k_is)
    (case mc_AboveRule_parts => k_is)
    (case mk_AboveRule_parts => k_is)
    (case mf_AboveRule_parts => k_is)
    (case ma_AboveRule_told => k_is)
    (case ml_AboveRule_told => k_is)
    (case mc_AboveRule_told => k_is)
    (case mk_AboveRule_told => k_is)
    (case mf_AboveRule_told => k_is)
    (case ma_AboveRule_begun => k_is)
    (case na_TurnRule_part => k_is)
    (case na_TurnRule_turning => k_is)
    (case na_TurnRule_name => k_is)
    (case na_TurnRule_cost => k_is)
    (case ma_TurnRule_init => k_is)
    (case ml_TurnRule_init => k_is)
    (case mc_TurnRule_init => k_is)
    (case mk_TurnRule_init => k_is)
    (case mf_TurnRule_init => k_is)
    (case ma_TurnRule_parts => k_is)
    (case ml_TurnRule_parts => k_is)
    (case mc_TurnRule_parts => k_is)
    (case mk_TurnRule_parts => k_is)
    (case mf_TurnRule_parts => k_is)
    (case ma_TurnRule_told => k_is)
    (case ml_TurnRule_told => k_is)
    (case mc_TurnRule_told => k_is)
    (case mk_TurnRule_told => k_is)
    (case mf_TurnRule_told => k_is)
    (case ma_TurnRule_begun => k_is)
    (case na_Grammar_signs => k_is)
    (case na_Grammar_start => k_is)
    (case na_Grammar_kept_rules => k_is)
    (case na_Grammar_kept_names => k_is)
    (case ma_Grammar_init => k_is)
    (case ml_Grammar_init => k_is)
    (case mc_Grammar_init => k_is)
    (case mk_Grammar_init => k_is)
    (case mf_Grammar_init => k_is)
    (case ma_Grammar_rules => k_is)
    (case ml_Grammar_rules => k_is)
    (case mc_Grammar_rules => k_is)
    (case mk_Grammar_rules => k_is)
    (case mf_Grammar_rules => k_is)
    (case ma_Grammar_rule => k_is)
    (case ml_Grammar_rule => k_is)
    (case mc_Grammar_rule => k_is)
    (case mk_Grammar_rule => k_is)
    (case mf_Grammar_rule => k_is)
    (case ma_Grammar_names => k_is)
    (case ml_Grammar_names => k_is)
    (case mc_Grammar_names => k_is)
    (case mk_Grammar_names => k_is)
    (case mf_Grammar_names => k_is)
    (case ma_Grammar_numbers_of => k_is)
    (case ml_Grammar_numbers_of => k_is)
    (case mc_Grammar_numbers_of => k_is)
    (case mk_Grammar_numbers_of => k_is)
    (case mf_Grammar_numbers_of => k_is)
    (case ma_Grammar_told => k_is)
    (case ml_Grammar_told => k_is)
    (case mc_Grammar_told => k_is)
    (case mk_Grammar_told => k_is)
    (case mf_Grammar_told => k_is)
    (case ia_Rule => k_is)
    (case ib_Rule => k_is)
    (case ic_Rule => k_is)
    (case ou_CellRule_CellRule => k_is)
    (case ou_CellRule_TurnRule => k_is)
    (case ov_CellRule_TurnRule => decide)
    (case ou_CellRule_BesideRule => k_is)
    (case ov_CellRule_BesideRule => decide)
    (case ou_BesideRule_CellRule => k_is)
    (case ov_BesideRule_CellRule => decide)
    (case ou_BesideRule_TurnRule => k_is)
    (case ov_BesideRule_TurnRule => decide)
    (case ou_BesideRule_BesideRule => k_is)
    (case ou_AboveRule_CellRule => k_is)
    (case ov_AboveRule_CellRule => decide)
    (case ou_AboveRule_TurnRule => k_is)
    (case ov_AboveRule_TurnRule => decide)
    (case ou_AboveRule_BesideRule => k_is)
    (case ov_AboveRule_BesideRule => decide)
    (case ou_TurnRule_CellRule => k_is)
    (case ov_TurnRule_CellRule => decide)
    (case ou_TurnRule_TurnRule => k_is)
    (case ou_TurnRule_BesideRule => k_is)
    (case ov_TurnRule_BesideRule => decide)
    (case ou_Grammar_CellRule => k_is)
    (case ov_Grammar_CellRule => decide)
    (case ou_Grammar_TurnRule => k_is)
    (case ov_Grammar_TurnRule => decide)
    (case ou_Grammar_BesideRule => k_is)
    (case ov_Grammar_BesideRule => decide)
    (case a_size_of => k_is)
    (case l_size_of => k_is)
    (case c_size_of => k_is)
    (case k_size_of => k_is)
    (case a_shown => k_is)
    (case l_shown => k_is)
    (case c_shown => k_is)
    (case k_shown => k_is)
    (case a_windows_of => k_is)
    (case l_windows_of => k_is)
    (case c_windows_of => k_is)
    (case k_windows_of => k_is)
    (case a_cut_out => k_is)
    (case l_cut_out => k_is)
    (case c_cut_out => k_is)
    (case k_cut_out => k_is)
    (case a_beside => k_is)
    (case l_beside => k_is)
    (case c_beside => k_is)
    (case k_beside => k_is)
    (case a_above => k_is)
    (case l_above => k_is)
    (case c_above => k_is)
    (case k_above => k_is)
    (case a_parted => k_is)
    (case l_parted => k_is)
    (case c_parted => k_is)
    (case k_parted => k_is)
    (case a_quarter => k_is)
    (case l_quarter => k_is)
    (case c_quarter => k_is)
    (case k_quarter => k_is)
    (case a_mirrored => k_is)
    (case l_mirrored => k_is)
    (case c_mirrored => k_is)
    (case k_mirrored => k_is)
    (case a_turned => k_is)
    (case l_turned => k_is)
    (case c_turned => k_is)
    (case k_turned => k_is)
    (case a_after => k_is)
    (case l_after => k_is)
    (case c_after => k_is)
    (case k_after => k_is)
    (case a_back => k_is)
    (case l_back => k_is)
    (case c_back => k_is)
    (case k_back => k_is)
    (case a_many_cells => k_is)
    (case l_many_cells => k_is)
    (case c_many_cells => k_is)
    (case k_many_cells => k_is)
    (case a_seen_in => k_is)
    (case l_seen_in => k_is)
    (case c_seen_in => k_is)
    (case k_seen_in => k_is)
    (case a_is_name => k_is)
    (case l_is_name => k_is)
    (case c_is_name => k_is)
    (case k_is_name => k_is)
    (case a_asked_name => k_is)
    (case l_asked_name => k_is)
    (case c_asked_name => k_is)
    (case k_asked_name => k_is)
    (case a_turned_pair => k_is)
    (case l_turned_pair => k_is)
    (case c_turned_pair => k_is)
    (case k_turned_pair => k_is)
    (case a_name_in => k_is)
    (case l_name_in => k_is)
    (case c_name_in => k_is)
    (case k_name_in => k_is)
    (case a_uses_for => k_is)
    (case l_uses_for => k_is)
    (case c_uses_for => k_is)
    (case k_uses_for => k_is)
    (case a_cost_by => k_is)
    (case l_cost_by => k_is)
    (case c_cost_by => k_is)
    (case k_cost_by => k_is)
    (case a_lowered => k_is)
    (case l_lowered => k_is)
    (case c_lowered => k_is)
    (case k_lowered => k_is)
    (case a_settle => k_is)
    (case l_settle => k_is)
    (case c_settle => k_is)
    (case k_settle => k_is)
    (case a_cells_in => k_is)
    (case l_cells_in => k_is)
    (case c_cells_in => k_is)
    (case k_cells_in => k_is)
    (case a_table_of => k_is)
    (case l_table_of => k_is)
    (case c_table_of => k_is)
    (case k_table_of => k_is)
    (case a_numbers_in => k_is)
    (case l_numbers_in => k_is)
    (case c_numbers_in => k_is)
    (case k_numbers_in => k_is)
    (case a_first_use => k_is)
    (case l_first_use => k_is)
    (case c_first_use => k_is)
    (case k_first_use => k_is)
    (case a_grown => k_is)
    (case l_grown => k_is)
    (case c_grown => k_is)
    (case k_grown => k_is)
    (case a_first_tree => k_is)
    (case l_first_tree => k_is)
    (case c_first_tree => k_is)
    (case k_first_tree => k_is)
    (case t_first_tree => k_is)
    (case a_are_signs => k_is)
    (case l_are_signs => k_is)
    (case c_are_signs => k_is)
    (case k_are_signs => k_is)
    (case a_names_met => k_is)
    (case l_names_met => k_is)
    (case c_names_met => k_is)
    (case k_names_met => k_is)
    (case a_asked_rules => k_is)
    (case l_asked_rules => k_is)
    (case c_asked_rules => k_is)
    (case k_asked_rules => k_is)
    (case a_law_cell => k_is)
    (case l_law_cell => k_is)
    (case c_law_cell => k_is)
    (case k_law_cell => k_is)
    (case a_law_signs => k_is)
    (case l_law_signs => k_is)
    (case c_law_signs => k_is)
    (case k_law_signs => k_is)
    (case a_law_grammar => k_is)
    (case l_law_grammar => k_is)
    (case c_law_grammar => k_is)
    (case k_law_grammar => k_is)
    (case a_law_numbers => k_is)
    (case l_law_numbers => k_is)
    (case c_law_numbers => k_is)
    (case k_law_numbers => k_is)
    (case a_law_deep => k_is)
    (case l_law_deep => k_is)
    (case c_law_deep => k_is)
    (case k_law_deep => k_is)
    (case a_law_asked => k_is)
    (case l_law_asked => k_is)
    (case c_law_asked => k_is)
    (case k_law_asked => k_is)
    (case a_law_sheet => k_is)
    (case l_law_sheet => k_is)
    (case c_law_sheet => k_is)
    (case k_law_sheet => k_is)
    (case a_law_line => k_is)
    (case l_law_line => k_is)
    (case c_law_line => k_is)
    (case k_law_line => k_is)
    (case a_law_corner => k_is)
    (case l_law_corner => k_is)
    (case c_law_corner => k_is)
    (case k_law_corner => k_is)
    (case a_law => k_is)
    (case l_law => k_is)
    (case c_law => k_is)
    (case k_law => k_is)
