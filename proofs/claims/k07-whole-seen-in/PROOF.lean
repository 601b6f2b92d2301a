import PyProof.Rows.All
import Wide.All
import OpenK.AllK
import Wide.FinOn
import HandS.ForMost
import HandS.ForExc
import HandS.Wide
import HandS.EndBits
import HandS.IsInst
import HandS.ExcInit
import HandS.ExcIs
import HandS.RevTup
import HandS.MapObj
import HandS.MapJoin
import HandS.Rev
import HandS.DictComp
import HandS.Strs
import HandS.TupSets
import HandS.Zip
import HandS.RevRange
import HandS.SortKw
import HandS.TryOnly
import HandS.Style
import PyProof.ListNew
import HandS.Deep
import PyProof.MinMaxWalk
import PyProof.WalkInts
import PyProof.Rows.CallKwBuiltin
import PyProof.Rows.CallKw2
import KE.KMinBuiltin
import PyProof.Draws
import PyProof.EnumMake
import KE.GoesMore
import KE.GoesEnum
import HandS.TupAny
import PyProof.AutoSeq1
import HandS.More
import KE.KEqDict
import HandS.SortInts
import HandS.Dict
import KE.KDictSum
import HandS.DictTup
import KE.KDictWalk
import KE.KDictCopyH
import HandS.Iter
import HandS.Exc
import HandS.Sort
import KE.SortKeyHeap
import PyProof.Rows.StrMul
import HandS.SetKeys
import HandS.Finally
import HandS.Defaults
import HandS.CallSlots
import PyProof.Rows.SortShellAny
import KE.SortData
import HandS.Conv
import HandS.Nested
import HandS.EndTab
import HandS.DictTup
import KE.KDictList
import HandS.Dict
import KE.KDictDisplayH
import PyProof.DictTable
import KE.LtData
import HandS.List
import KE.OsRunLaw
import KE.KNestM
import PySem.Challenge.RW_quiltlaw_k07_whole_seen_in
set_option Elab.async false
set_option linter.all false
set_option genSizeOf false
set_option genInjectivity false
set_option maxRecDepth 100000
set_option maxHeartbeats 4000000
namespace RevS
open PySem PySem.Spec PyProof.Rows RT MpR
theorem norev_str : typeLookup (.type "str") "__reversed__" = pure none := by rw [typeLookup_type, builtinLookup_eq_fast]; kernel_rfl
theorem get_str : typeLookup (.type "str") "__getitem__" = pure (some (.builtin "str.__getitem__")) := by rw [typeLookup_type, builtinLookup_eq_fast]; kernel_rfl
theorem sub_str_dict : isSubtype (.type "str") (.type "dict") = pure false := by rw [isSubtype_type]; kernel_rfl
theorem nolen_rev : typeLookup (.type "reversed") "__len__" = pure none := by rw [typeLookup_type, builtinLookup_eq_fast]; kernel_rfl
theorem slot_hint : Slot "reversed" "__length_hint__" "reversed.__length_hint__" :=
  .of (owner := "reversed") (n := "__length_hint__") (by rw [typeLookup_type, builtinLookup_eq_fast]; kernel_rfl) (by decide +kernel) (by decide +kernel) (by decide +kernel)
    (by first | exact .inl (by decide +kernel) | exact .inr (by decide +kernel)) (by rw [isSubtype_type]; kernel_rfl)
theorem entry_hint : entryFor table "reversed.__length_hint__" = some Builtin.«reversed.__length_hint__» := entryFor_of_tree (by kernel_rfl)
theorem args_hint (a : Value) : argsOk "reversed.__length_hint__" ⟨[a], []⟩ := by
  unfold argsOk; rw [signature?_of (id := "reversed.__length_hint__") (n := ['_', '_', 't', 'n', 'i', 'h', '_', 'h', 't', 'g', 'n', 'e', 'l', '_', '_']) (o := ['d', 'e', 's', 'r', 'e', 'v', 'e', 'r']) (by kernel_rfl) owner_rt]; kernel_rfl
noncomputable def rsObj (x : Str) (t : Tok) (i : Int) : Obj := { cls := .type "reversed", data := .fields #[.str x t, rawInt i] }
noncomputable def IsRs (h : Heap) (a : Addr) (x : Str) (t : Tok) (i : Int) : Prop := ∃ o, h.get? a = some o ∧ o.cls = .type "reversed" ∧ o.data = .fields #[.str x t, rawInt i]
theorem IsRs.at {h h' : Heap} {a : Addr} {x : Str} {t : Tok} {i : Int} (q : IsRs h a x t i) (e : ∀ o, h.get? a = some o → h'.get? a = some o) : IsRs h' a x t i := let ⟨o, ho, r⟩ := q; ⟨o, e _ ho, r⟩
section
variable {prog : Program} {w : World} {A : Around} {E : Value → Shared → Prop} {s : Shared}
theorem IsRs.typeIs {a : Addr} {x : Str} {t : Tok} {i : Int} (q : IsRs s.heap a x t i) : s.TypeIs (.ref a) "reversed" := let ⟨o, ho, hc, _⟩ := q; ⟨o, ho, hc⟩
theorem code_reversed_str {x : Str} {t : Tok} {Q₁ : Value → Shared → Prop} (hz : x.length ≤ sizeLine)
    (h : Q₁ (.ref s.heap.objs.size) { s with heap := s.heap.push (rsObj x t ((x.length : Int) - 1)), toks := s.toks + 1 + 1 }) :
    codeAny (model prog w) A (.call (.builtin "reversed.__new__") ⟨[.type "reversed", .str x t], []⟩) (wants Q₁ E) s := by
  have hT : s.TypeIs (.str x t) "str" := typeIs_str _ _ _
  refine codeAny_of_tree ?_
  show wpAny _ A.in1 (do checkBuiltinCall "reversed.__new__" ⟨[.type "reversed", .str x t], []⟩; again (.builtin "reversed.__new__" ⟨[.type "reversed", .str x t], []⟩)) _ _ s
  refine wpAny_bind (wpAny_of_eq (F.newCall_reversed_1 _) (wpAny_pure ⟨plainId_quiet F.plain_reversed_new _, codeAny_builtin F.entry_reversed_new ?_⟩))
  rw [Around.under_plainId F.plain_reversed_new _]
  unfold Builtin.«reversed.__new__»
  refine wpAny_bind (wpAny_of_eq (newClass_reversed _) ?_)
  try dsimp only
  refine wpAny_bind (wpAny_of_eq (a := ()) (by first | rfl | kernel_rfl) ?_)
  try dsimp only
  refine wpAny_bind (wpAny_of_eq (a := ()) (by first | rfl | kernel_rfl) ?_)
  try dsimp only
  refine wpAny_bind (wpAny_specialOf hT norev_str ?_)
  try dsimp only
  refine wpAny_bind ?_
  wp_delta
  refine wpAny_bind (wpAny_isInstance (T := "str") (U := "dict") (b := false) hT sub_str_dict ?_)
  try dsimp only
  try rw [if_neg Bool.false_ne_true]
  try dsimp only
  refine wpAny_bind (wpAny_specialOf hT get_str ?_)
  try dsimp only
  try rw [if_pos (by decide +kernel)]
  refine wpAny_pure ?_
  try dsimp only
  try rw [if_neg (by decide)]
  try dsimp only
  refine wpAny_bind (P.len_str (by have := L2.line63; omega) ?_)
  refine wpAny_bind (wpAny_of_eq (a := some ((x.length : Nat) : Int)) rfl ?_)
  try dsimp only
  refine wpAny_bind ?_
  show wpAny _ _ (newObj (.type "reversed") (.fields #[.str x t, rawInt ((x.length : Int) - 1)])) _ _ _
  refine wpAny_newObj_type ?_
  exact wpAny_pure h
theorem call_reversed_str {x : Str} {t : Tok} {Q : Value → Shared → Prop} (hz : x.length ≤ sizeLine)
    (h : Q (.ref s.heap.objs.size) { s with heap := s.heap.push (rsObj x t ((x.length : Int) - 1)), toks := s.toks + 1 + 1 }) : wpAny (model prog w) A (call (.type "reversed") [.str x t]) Q E s := by
  refine callType_codes (Q₁ := fun obj s₁ => s₁.TypeIs obj "reversed" ∧ Q obj s₁) called_rt (F.typeCall_reversed_1 _) F.entry_object_init
    (code_reversed_str (A := A.in1) hz ⟨⟨_, Heap.get?_push_size _ rfl, rfl⟩, h⟩) fun obj s₁ h₁ => ?_
  exact ⟨h₁.1, F.args_object_init_2 obj _, object_init_meets called_rt.init.lookup called_rt.made (by decide) prog w A.in1 _ s₁ ⟨h₁.1, rfl, h₁.2⟩⟩
theorem next_rs_item {it : Addr} {x : Str} {t : Tok} {i c : Nat} {Q : Option Value → Shared → Prop} (hit : IsRs s.heap it x t (i : Int)) (hx : x.cps[i]? = some c) (hsz : x.length ≤ sizeLine)
    (hQ : ∀ h' tk, IsRs h' it x t ((i : Int) - 1) → Heap.SameBut it s.heap h' → Q (some (.str ⟨#[c]⟩ (s.toks + 1))) { s with heap := h', toks := tk }) : wpAny (model prog w) A (pyNext (.ref it)) Q E s := by
  obtain ⟨o, ho, hc, hd⟩ := id hit
  have hi : i < x.length := (Array.getElem?_eq_some_iff.mp hx).1
  have hT : s.TypeIs (.str x t) "str" := typeIs_str _ _ _
  have hn := L2.line63
  unfold pyNext
  refine wpAny_bind (wpAny_attempt (wpAny_callSpecial?_slot (name := Str.ofString "__next__") hit.typeIs slot_rt_next
    (wpAny_call_entry slot_rt_next hit.typeIs entry_rt_next ?_ (args_rt_next _))))
  unfold Builtin.«reversed.__next__»
  refine wpAny_bind (wpAny_of_eq (a := (Value.ref it, [])) rfl ?_)
  try dsimp only
  refine wpAny_bind (wpAny_field ho hd (x := .str x t) rfl ?_)
  try dsimp only
  refine wpAny_bind (wpAny_field ho hd (x := rawInt (i : Int)) rfl ?_)
  show wpAny _ _ (if (i : Int) < 0 then _ else _) _ _ s
  rw [if_neg (by omega)]
  try dsimp only
  refine wpAny_bind (wpAny_specialOf hT get_str ?_)
  try dsimp only
  try rw [if_neg (by decide)]
  try dsimp only
  refine wpAny_bind (wpAny_mkInt ?_)
  refine wpAny_bind (wpAny_attempt ?_)
  have fin : seqIndex? (i : Int) x.length = some i := seqIndex_of (by omega) (by omega)
  refine P.getItem_str (s := { s with toks := s.toks + 1 }) (c := c) (by
    have e1 : decide ((i : Int) < -(2 ^ 63 : Int)) = false := decide_eq_false (by omega)
    have e2 : decide ((i : Int) ≥ 2 ^ 63) = false := decide_eq_false (by omega)
    rw [e1, e2, Bool.or_false]) (by rw [fin]; simpa using hx) ?_
  try dsimp only
  refine wpAny_bind (wpAny_field (s := { s with toks := s.toks + 1 + 1 }) ho hd (x := rawInt (i : Int)) rfl ?_)
  try dsimp only
  refine wpAny_bind (wpAny_setField (s := { s with toks := s.toks + 1 + 1 }) ho hd (by simp) ?_)
  first
  | refine wpAny_pure ⟨_, rfl, wpAny_pure (hQ _ _ ?_ (Heap.SameBut.update ..))⟩
  | refine wpAny_bind (wpAny_pure (wpAny_pure ⟨_, rfl, wpAny_pure (hQ _ _ ?_ (Heap.SameBut.update ..))⟩))
  exact ⟨_, Heap.get?_update_self _ ho (Obj.isFreed_of_fields (Obj.data_mapFields hd _)), (Obj.cls_mapFields ..).trans hc, by
    rw [Obj.data_mapFields hd]; simp⟩
theorem next_rs_end {it : Addr} {x : Str} {t : Tok} {Q : Option Value → Shared → Prop} (hh : A.handled = none) (hit : IsRs s.heap it x t (-1))
    (hQ : ∀ h', Heap.ExtBut it s.heap h' → Q none { s with heap := h' }) : wpAny (model prog w) A (pyNext (.ref it)) Q E s := by
  obtain ⟨o, ho, hc, hd⟩ := id hit
  unfold pyNext
  refine wpAny_bind (wpAny_attempt (wpAny_callSpecial?_slot (name := Str.ofString "__next__") hit.typeIs slot_rt_next
    (wpAny_call_entry slot_rt_next hit.typeIs entry_rt_next ?_ (args_rt_next _))))
  unfold Builtin.«reversed.__next__»
  refine wpAny_bind (wpAny_of_eq (a := (Value.ref it, [])) rfl ?_)
  try dsimp only
  refine wpAny_bind (wpAny_field ho hd (x := .str x t) rfl ?_)
  try dsimp only
  refine wpAny_bind (wpAny_field ho hd (x := rawInt (-1)) rfl ?_)
  show wpAny _ _ (if (-1 : Int) < 0 then _ else _) _ _ s
  rw [if_pos (by decide)]
  try dsimp only
  refine wpAny_bind (wpAny_rule ?_)
  refine wpAny_bind ?_
  wp_delta
  refine wpAny_bind (wpAny_setField ho hd (by simp) ?_)
  have ho2 := Heap.get?_update_self (Obj.mapFields (·.setIfInBounds 1 (rawInt (-1)))) ho (Obj.isFreed_of_fields (Obj.data_mapFields hd _))
  refine wpAny_setField (s := { s with heap := s.heap.update it (Obj.mapFields (·.setIfInBounds 1 (rawInt (-1)))) }) ho2 (Obj.data_mapFields hd _) (by simp) ?_
  try dsimp only
  first
  | show wpAny _ _ (newExc (.type "StopIteration") [] >>= _) _ _ _
  | (refine wpAny_bind ?_; show wpAny _ _ (newExc (.type "StopIteration") [] >>= _) _ _ _)
  | (refine wpAny_bind ?_; wp_delta; show wpAny _ _ (newExc (.type "StopIteration") [] >>= _) _ _ _)
  refine wpAny_bind ?_
  simp only [newExc, newTuple]
  refine wpAny_bind (wpAny_newObj_type ?_ (by size_fits))
  refine wpAny_bind (m := firstArgMember _ _) (wpAny_of_eq (a := Value.none) (by first | rfl | (simp only [firstArgMember]; rfl)) ?_)
  refine wpAny_newObj_type ?_ (by size_fits)
  simp only [raiseNew]
  refine wpAny_bind (wpAny_handled ?_)
  first | rw [show A.in1.handled = none from hh] | rw [hh]
  refine wpAny_bind (wpAny_pure (wpAny_throw ?_))
  refine wpAny_bind (wpAny_isInstance (T := "StopIteration") (b := true) ⟨_, Heap.get?_push_size _ rfl, rfl⟩ isSubtype_stop ?_)
  refine wpAny_pure (hQ _ ?_)
  refine ((?_ : Heap.ExtBut it s.heap _).push _).push _
  exact fun b ob hb e => (Heap.get?_update_other _ _ (Ne.symm hb)).trans ((Heap.get?_update_other _ _ (Ne.symm hb)).trans e)
theorem iter_rs {it : Addr} {x : Str} {t : Tok} {i : Int} {Q : Value → Shared → Prop} (hit : IsRs s.heap it x t i) (h : Q (.ref it) s) : wpAny (model prog w) A (pyIter (.ref it)) Q E s := by
  refine wpAny_pyIter_slot hit.typeIs slot_rt_iter (wpAny_call_entry slot_rt_iter hit.typeIs entry_rt_iter ?_ (args_rt_iter _))
  show wpAny _ _ (ret (.ref it)) _ _ s
  exact wpAny_pure ⟨_, rfl, "reversed", _, hit.typeIs, slot_rt_next.lookup, h⟩
end
theorem walks_rs {prog : Program} {w : World} {A : Around} (hh : A.handled = none) (I : Addr) (x : Str) (t : Tok) (hsz : x.length ≤ sizeLine) :
    Walks prog w A I [I] [I] x.length (fun i v => ∃ c tk, x.cps[x.length - 1 - i]? = some c ∧ v = .str ⟨#[c]⟩ tk) (fun i h => i ≤ x.length ∧ IsRs h I x t ((x.length : Int) - 1 - (i : Int))) where
  sub := fun b hb => hb
  frame := fun _ _ _ q hk => ⟨q.1, q.2.at fun o e => hk I (by simp) o e⟩
  item := fun i s Q E hi q hQ => by
    have e : (x.length : Int) - 1 - (i : Int) = ((x.length - 1 - i : Nat) : Int) := by omega
    have hit := q.2
    rw [e] at hit
    have hlt : x.length - 1 - i < x.cps.size := by show x.length - 1 - i < x.length; omega
    have hx : x.cps[x.length - 1 - i]? = some (x.cps[x.length - 1 - i]'hlt) := Array.getElem?_eq_getElem hlt
    refine next_rs_item hit hx hsz fun h' tk hit' hs' => ?_
    have e2 : ((x.length - 1 - i : Nat) : Int) - 1 = (x.length : Int) - 1 - ((i + 1 : Nat) : Int) := by omega
    rw [e2] at hit'
    exact hQ _ h' tk ⟨_, _, hx, rfl⟩ ⟨hi, hit'⟩ fun b o hb eo => hs'.extBut b o (fun h => hb (by simp [h])) eo
  done := fun s Q E q hQ => by
    have e : (x.length : Int) - 1 - (x.length : Int) = -1 := by omega
    have hit := q.2
    rw [e] at hit
    exact next_rs_end hh hit fun h' he' => hQ h' s.toks fun b o hb eo => he' b o (fun h => hb (by simp [h])) eo
  self := fun _ _ _ _ q hQ => iter_rs q.2 hQ
section
variable {prog : Program} {w : World} {A : Around} {E : Value → Shared → Prop} {s : Shared}
theorem call_hint {it : Addr} {x : Str} {t : Tok} {Q : Value → Shared → Prop} (hit : IsRs s.heap it x t ((x.length : Int) - 1)) (hz : x.length ≤ sizeLine)
    (h : ∀ tk k, s.toks ≤ k → Q (.int x.length tk) { s with toks := k }) : wpAny (model prog w) A (call (.builtin "reversed.__length_hint__") [.ref it]) Q E s := by
  obtain ⟨o, ho, hc, hd⟩ := id hit
  refine wpAny_call_entry slot_hint hit.typeIs entry_hint ?_ (args_hint _)
  unfold Builtin.«reversed.__length_hint__»
  refine wpAny_bind (wpAny_of_eq (a := Value.ref it) rfl ?_)
  try dsimp only
  refine wpAny_bind (wpAny_field ho hd (x := .str x t) rfl ?_)
  try dsimp only
  rw [if_neg (by intro q; cases q)]
  try dsimp only
  refine wpAny_bind (P.len_str (by have := L2.line63; omega) ?_)
  refine wpAny_bind (wpAny_of_eq (a := some ((x.length : Nat) : Int)) rfl ?_)
  try dsimp only
  refine wpAny_bind (wpAny_field (s := { s with toks := s.toks + 1 + 1 }) ho hd (x := rawInt ((x.length : Int) - 1)) rfl ?_)
  try dsimp only
  have e : (x.length : Int) - 1 + 1 = x.length := by omega
  show wpAny _ _ (if (x.length : Int) < (x.length : Int) - 1 + 1 then _ else _) _ _ _
  rw [if_neg (by omega), e]
  refine wpAny_bind (wpAny_mkInt ?_)
  exact wpAny_pure ⟨_, rfl, h _ _ (by show s.toks ≤ s.toks + 1 + 1 + 1; omega)⟩
end
section
variable {prog : Program} {w : World} {A : Around} {E : Value → Shared → Prop} {s : Shared}
theorem collect_rs {I : Addr} {x : Str} {t : Tok} {Q : List Value → Shared → Prop} (hh : A.handled = none) (hz : x.length ≤ sizeLine) (hit : IsRs s.heap I x t ((x.length : Int) - 1))
    (hQ : ∀ s' acc, Moved [I] (fun a b => b = a) s s' → ItemsOf (fun i v => ∃ c tk, x.cps[x.length - 1 - i]? = some c ∧ v = .str ⟨#[c]⟩ tk) acc x.length → Q acc.toList s') : wpAny (model prog w) A (collect (.ref I)) Q E s := by
  have W := (walks_rs (prog := prog) (w := w) (A := A.in1) hh I x t hz).toS
  have hst : 0 ≤ x.length ∧ IsRs s.heap I x t ((x.length : Int) - 1 - ((0 : Nat) : Int)) := ⟨Nat.zero_le _, by rw [show ((x.length : Int) - 1 - ((0 : Nat) : Int)) = (x.length : Int) - 1 by omega]; exact hit⟩
  obtain ⟨oi, hoi, _⟩ := id hit
  have hSI : s.heap.objs.size ≠ I := Nat.ne_of_gt (Heap.lt_size hoi)
  have hSf : s.heap.objs.size ∉ [I] := by simp only [List.mem_singleton]; exact hSI
  unfold collect
  refine wpAny_bind (wpAny_runValue (codeAny_builtin F.entry_proto_collect ?_))
  rw [Around.under_plainId F.plain_proto_collect _]
  show wpAny _ A.in1 (newList [] >>= fun l => again (.builtin "list.__iadd__" ⟨[l, .ref I], []⟩)) _ _ s
  refine wpAny_bind (wpAny_newObj_type ?_)
  refine wpAny_pure ⟨plainId_quiet F.plain_list_iadd _, codeAny_builtin F.entry_list_iadd ?_⟩
  rw [Around.under_plainId F.plain_list_iadd _]
  have hit₁ : IsRs (s.heap.push { cls := .type "list", data := .seq ([] : List Value).toArray }) I x t ((x.length : Int) - 1) := hit.at fun o e => Heap.get?_push_of_some _ e
  have hT : ({ s with heap := s.heap.push { cls := .type "list", data := .seq ([] : List Value).toArray } } : Shared).TypeIs (.ref I) "reversed" := IsRs.typeIs (s := { s with heap := s.heap.push { cls := .type "list", data := .seq ([] : List Value).toArray } }) hit₁
  have hst₁ := W.frame 0 s (s.heap.push { cls := .type "list", data := .seq ([] : List Value).toArray }) s.toks hst (Nat.le_refl _) fun b _ o e => Heap.get?_push_of_some _ e
  show wpAny _ A.in1 (Builtin.List.listExtendWith (.ref s.heap.objs.size) (.ref I) (.ref s.heap.objs.size)) _ _ _
  unfold Builtin.List.listExtendWith
  refine wpAny_bind (wpAny_typeOf hT ?_)
  have h1 : Builtin.List.listSameRef (.ref s.heap.objs.size) (.ref I) = false := by simp [Builtin.List.listSameRef, hSI]
  have h2 : (Value.type "reversed" == Value.type "list") = false := by decide
  have h3 : (Value.type "reversed" == Value.type "tuple") = false := by decide
  simp only [h1, h2, h3, Bool.or_false, Bool.false_eq_true, if_false]
  refine wpAny_bind (W.self 0 _ _ _ hst₁ ?_)
  refine wpAny_bind (wpAny_holding ?_)
  unfold Builtin.List.listLengthHint
  refine wpAny_bind (wpAny_specialOf hT nolen_rev ?_)
  show wpAny _ A.in1 (specialOf (Value.ref I) (Str.ofString "__length_hint__") >>= _) _ _ _
  refine wpAny_bind (wpAny_specialOf hT slot_hint.lookup ?_)
  generalize hid : ("reversed.__length_hint__" : String) = id0
  wp_delta
  rw [show splitId id0 = some ("reversed", "__length_hint__") from by subst hid; decide +kernel]
  subst hid
  refine wpAny_bind (wpAny_isInstance (b := true) hT F.sub_reversed_self ?_)
  simp only [Bool.not_true, Bool.false_eq_true, if_false]
  rw [if_neg (by decide +kernel)]
  refine wpAny_bind (wpAny_rule ?_)
  refine wpAny_bind (wpAny_of_eq (slot_hint.bind _) ?_)
  try dsimp only
  refine wpAny_bind (wpAny_attempt (call_hint (s := { s with heap := s.heap.push { cls := .type "list", data := .seq ([] : List Value).toArray } }) hit₁ hz fun tk k hk => ?_))
  try dsimp only
  have hn63 := L2.line63
  have e0 : ((x.length : Nat) : Int) ≥ 0 := by omega
  have hfi : Builtin.List.listFitsIndex ((x.length : Nat) : Int) = true := by
    unfold Builtin.List.listFitsIndex
    rw [decide_eq_true (by omega), decide_eq_true (by omega)]; rfl
  have hlong : Builtin.List.listTooLong (((x.length : Nat) : Int)).toNat = false := L2.notLongL (by simpa using hz)
  have hm : asInt? (Value.int ((x.length : Nat) : Int) tk) = pure (some ((x.length : Nat) : Int)) := by simp only [asInt?]
  rw [hm]
  rw [pure_bind]
  try dsimp only
  rw [hfi, if_neg (by decide), if_neg (show ¬ ((x.length : Nat) : Int) < 0 by omega), hlong, if_neg (by decide)]
  refine wpAny_pure ?_
  have hS₁ : (s.heap.push { cls := .type "list", data := .seq ([] : List Value).toArray }).get? s.heap.objs.size = some { cls := .type "list", data := .seq ([] : List Value).toArray } := Heap.get?_push_size _ rfl
  have hS0 : ({ s with heap := s.heap.push { cls := .type "list", data := .seq ([] : List Value).toArray }, toks := k } : Shared).heap.get? s.heap.objs.size = some { cls := .type "list", data := .seq ([] : List Value).toArray } := hS₁
  by_cases hz0 : x.length = 0
  · rw [hz0]
    rw [if_neg (by decide +kernel)]
    refine wpAny_pure ⟨plainId_quiet F.plain_extend_loop _, codeAny_extend_loopS W hz _ hSf _ x.length 0 _ _ _ rfl (Nat.zero_le _) ⟨Nat.zero_le _, by rw [show ((x.length : Int) - 1 - ((0 : Nat) : Int)) = (x.length : Int) - 1 by omega]; exact hit₁⟩ hS0 (ItemsOf.nil _) fun s' acc' c' hm hS' hacc => ?_⟩
    show wpAny _ A (load s.heap.objs.size >>= _) _ _ s'
    refine wpAny_bind (wpAny_load hS' ?_)
    refine wpAny_pure (hQ s' acc' ?_ hacc)
    refine ⟨fun b o hb e => ?_, hm.gens, hm.drawn, hm.os, ?_⟩
    · refine hm.heap b o (fun hmem => ?_) (Heap.get?_push_of_some _ e)
      rcases List.mem_cons.mp hmem with e' | hmem
      · exact absurd (Heap.lt_size e) (by rw [e']; exact Nat.lt_irrefl _)
      · exact hb hmem
    · exact Nat.le_trans hk hm.toks
  · rw [if_pos (by
      have : (((x.length : Nat) : Int) != 0) = true := by
        rw [bne_iff_ne]; omega
      rw [this]; rfl)]
    refine wpAny_bind (wpAny_rule ?_)
    refine wpAny_bind ?_
    show wpAny _ A.in1 (updateSeq s.heap.objs.size (·.push .none) >>= fun _ => updateSeq s.heap.objs.size (·.pop)) _ _ _
    refine wpAny_bind (wpAny_updateSeq hS0 rfl ?_ (Nat.zero_le _) (Nat.succ_le_succ (Nat.zero_le _)))
    have hS₂ := Heap.get?_update_self (Obj.mapSeq (·.push Value.none)) hS₁ rfl
    refine wpAny_updateSeq hS₂ rfl ?_ (by show 1 ≤ sizeLine; decide) (Nat.zero_le _)
    have hS₃ := Heap.get?_update_self (Obj.mapSeq (·.pop)) hS₂ rfl
    have oth : ∀ b o, b ≠ s.heap.objs.size → (s.heap.push { cls := .type "list", data := .seq ([] : List Value).toArray }).get? b = some o →
        (((s.heap.push { cls := .type "list", data := .seq ([] : List Value).toArray }).update s.heap.objs.size (Obj.mapSeq (·.push Value.none))).update s.heap.objs.size (Obj.mapSeq (·.pop))).get? b = some o :=
      fun b o hb e => (Heap.get?_update_other _ _ (Ne.symm hb)).trans ((Heap.get?_update_other _ _ (Ne.symm hb)).trans e)
    have hit3 := hit₁.at fun o e => oth I o (Ne.symm hSI) e
    refine wpAny_pure ⟨plainId_quiet F.plain_extend_loop _, codeAny_extend_loopS W hz _ hSf _ x.length 0 _ _ _ rfl (Nat.zero_le _) ⟨Nat.zero_le _, by rw [show ((x.length : Int) - 1 - ((0 : Nat) : Int)) = (x.length : Int) - 1 by omega]; exact hit3⟩ hS₃ (ItemsOf.nil _) fun s' acc' c' hm hS' hacc => ?_⟩
    show wpAny _ A (load s.heap.objs.size >>= _) _ _ s'
    refine wpAny_bind (wpAny_load hS' ?_)
    refine wpAny_pure (hQ s' acc' ?_ hacc)
    refine ⟨fun b o hb e => ?_, hm.gens, hm.drawn, hm.os, ?_⟩
    · have hbs : b ≠ s.heap.objs.size := Nat.ne_of_lt (Heap.lt_size e)
      refine hm.heap b o (fun hmem => ?_) (oth b o hbs (Heap.get?_push_of_some _ e))
      rcases List.mem_cons.mp hmem with e' | hmem
      · exact hbs e'
      · exact hb hmem
    · exact Nat.le_trans hk hm.toks
end
noncomputable def one (c : Nat) : Str := ⟨#[c]⟩
theorem strs_rs {x : Str} {acc : Array Value} (h : ItemsOf (fun i v => ∃ c tk, x.cps[x.length - 1 - i]? = some c ∧ v = .str ⟨#[c]⟩ tk) acc x.length) : StrsAre acc.toList (x.cps.toList.reverse.map one) := by
  obtain ⟨h1, h2⟩ := h
  have hz : acc.toList.length = (x.cps.toList.reverse.map one).length := by simp [h1, Str.length]
  have key : ∀ (i : Nat) (v : Value), acc.toList[i]? = some v → ∃ (y : Str) (t : Tok), (x.cps.toList.reverse.map one)[i]? = some y ∧ v = .str y t := by
    intro i v hv
    have hv' : acc[i]? = some v := by simpa using hv
    have hi : i < x.length := by
      have h3 := (Array.getElem?_eq_some_iff.mp hv').1
      omega
    obtain ⟨c, tk, hc, rfl⟩ := h2 i v hv'
    refine ⟨⟨#[c]⟩, tk, ?_, rfl⟩
    have hl : x.cps.toList.length = x.length := by simp [Str.length]
    rw [List.getElem?_map, List.getElem?_reverse (by omega), hl, Array.getElem?_toList, hc]
    rfl
  generalize x.cps.toList.reverse.map one = ys at hz key
  generalize acc.toList = L at hz key
  clear h1 h2
  induction L generalizing ys with
  | nil =>
    cases ys with
    | nil => exact .nil
    | cons y r => simp at hz
  | cons v L ih =>
    cases ys with
    | nil => simp at hz
    | cons y ys =>
      obtain ⟨y', t, hy, rfl⟩ := key 0 v rfl
      have ey : y = y' := Option.some.inj hy
      subst ey
      exact .cons y t (ih ys (by simpa using hz) fun i v' hv => key (i + 1) v' (by simpa using hv))
section
variable {prog : Program} {w : World} {A : Around} {E : Value → Shared → Prop} {s : Shared}
theorem join_rs {I : Addr} {x a : Str} {t u : Tok} {Q : Value → Shared → Prop} (hh : A.handled = none) (hz : x.length ≤ sizeLine) (hit : IsRs s.heap I x t ((x.length : Int) - 1))
    (hok : x.length + x.length * a.length ≤ 16777216)
    (hq : ∀ s', Moved [I] (fun a b => b = a) s s' → ∀ t' k, Q (.str (Txt.join a (x.cps.toList.reverse.map one)) t') { s' with toks := k }) :
    wpAny (model prog w) A (call (.builtin "str.join") [.str a u, .ref I]) Q E s := by
  have hT : s.TypeIs (.ref I) "reversed" := hit.typeIs
  have hl : x.cps.toList.length = x.length := by simp [Str.length]
  have hok2 : ((x.cps.toList.reverse.map one).map (·.length)).sum + (x.cps.toList.reverse.map one).length * a.length ≤ 16777216 := by
    have e1 : ((x.cps.toList.reverse.map one).map (·.length)).sum = x.length := by
      rw [List.map_map, show ((fun y : Str => y.length) ∘ one) = fun _ => 1 from rfl]
      rw [List.map_const', List.sum_replicate_nat]
      simp [Str.length]
    rw [e1, List.length_map, List.length_reverse, hl]
    exact hok
  refine wpAny_call (codeAny_call_builtin F.slot_str_join.plain F.entry_str_join (F.slot_str_join.check _ _ _ _ _ _ _ _ (typeIs_str _ _ _) (F.args_str_join_2 _ _) ?_))
  rw [join_tree_other]
  refine wpAny_bind (wpAny_typeOf hT ?_)
  show wpAny _ A.in1 ((pyIter (.ref I)).tryCatch _ >>= fun it => collect it >>= fun items => joinTail a items) _ _ s
  refine wpAny_bind (wpAny_tryCatch (iter_rs hit ?_))
  refine wpAny_bind (collect_rs (A := A.in1) hh hz hit fun s' acc hm hacc => ?_)
  obtain ⟨l, hl2, ht⟩ := strsAre_values (strs_rs hacc)
  rw [hl2]
  rw [← ht] at hok2 hq
  have hok' := joinOk_of hok2
  unfold JoinOk at hok'
  rw [Bool.not_eq_true'] at hok'
  have g : Gives (joinTail a (strValues l)) (joinMade a l) := by
    have g0 := gives_joinTail a l hok'
    cases l with
    | nil => exact g0
    | cons p r => cases r with
      | nil => exact g0
      | cons q r' => exact g0
  exact g prog w A (wants Q E) s' (post_join l ⟨joinFit_length hok', hq s' hm⟩)
end
end RevS
namespace L2
open PySem PySem.Spec PyProof.Rows
noncomputable def tJoinRev (to te : TE) : TE := fun σ H Q => to σ H fun x H1 => (∃ a, x = .str a) ∧ te σ H1 fun v H2 => ∃ (a z : Str), x = .str a ∧ v = .str z ∧ z.length ≤ sizeLine ∧ z.length + z.length * a.length ≤ 16777216 ∧
  Q (.str (Txt.join a (z.cps.toList.reverse.map RevS.one))) H2
theorem pe_joinRev {X : Cx} {o e : Expr} {to te : TE} {apos pos p pos2 : Pos} (hc : X.calm = true) (ho : PE X o to) (hg : Gl X "reversed") (hm : X.mg "reversed" = none) (he : PE X e te)
    (hs1 : starEach [.Call (.Name "reversed" p) [e] [] pos2] X.env = [(false, eval (.Call (.Name "reversed" p) [e] [] pos2) X.env)] := by rfl)
    (hs : starEach [e] X.env = (false, eval e X.env) :: starEach [] X.env := by rfl)
    (hbase : attributeBase o "join" X.env (eval o X.env) = eval o X.env := by rfl) (hline : (apos.endLine == pos.line) = true := by rfl) :
    PE X (.Call (.Attribute o "join" apos) [.Call (.Name "reversed" p) [e] [] pos2] [] pos) (tJoinRev to te) := by
  refine ⟨fun pins s σ H Q I h => ?_⟩
  refine PySem.Call_method1 hbase hs1 hline (thn (ho.run pins s σ H _ I h) fun v s1 ⟨x, H1, I1, r1, q1⟩ => ?_)
  obtain ⟨⟨a, rfl⟩, q1⟩ := q1
  obtain ⟨t, rfl⟩ := _root_.id r1
  refine ⟨"str", _, F.plainAttrs_str, F.slot_str_join, F.type_str_join, typeIs_str _ _ _, (fun _ e => nomatch e), Calls.callWith_builtin rfl (Calls.evalArgs_plain (Calls.spliced_cons ?_))⟩
  refine Call_ (ld_blt I1 hg hm PyProof.Rows.boot_reversed (PyProof.Rows.callWith_type1 (args_cons (thn (he.run pins s1 σ H1 _ I1 q1) fun u s2 ⟨v, H2, I2, r2, q2⟩ => args_nil ?_) hs) hs rfl))
  obtain ⟨a', z, ea, ev, hz, hk, q⟩ := q2
  cases ea
  subst ev
  obtain ⟨t2, rfl⟩ := _root_.id r2
  refine RevS.call_reversed_str hz (Calls.spliced_nil ?_)
  have hit : RevS.IsRs (s2.heap.push (RevS.rsObj z t2 ((z.length : Int) - 1))) s2.heap.objs.size z t2 ((z.length : Int) - 1) := ⟨_, Heap.get?_push_size _ rfl, rfl, rfl⟩
  refine RevS.join_rs (s := { s2 with heap := s2.heap.push (RevS.rsObj z t2 ((z.length : Int) - 1)), toks := s2.toks + 1 + 1 }) (I2.ok.hd hc) hz hit hk fun s' hm' t' k => ?_
  have kp : ∀ b o, s2.heap.get? b = some o → s'.heap.get? b = some o := fun b o e => hm'.heap b o (by
    simp only [List.mem_singleton]
    exact Nat.ne_of_lt (Heap.lt_size e)) (Heap.get?_push_of_some _ e)
  rw [Moved.eq_with hm']
  exact ⟨.str _, H2, I2.kept (t' := k) kp, ⟨t', rfl⟩, q⟩
end L2
namespace SetS
open PySem PySem.Spec PyProof.Rows
noncomputable def cnt (xs : List Str) : Nat → Nat
  | 0 => 0
  | i + 1 => if (xs.take i).any (· == xs.getD i Str.empty) = true then cnt xs i else cnt xs i + 1
theorem cnt_le (xs : List Str) : ∀ i, cnt xs i ≤ i
  | 0 => Nat.le_refl _
  | i + 1 => by
    have := cnt_le xs i
    unfold cnt
    split <;> omega
noncomputable abbrev nude (b : Bool) : Obj := ⟨.type "set", none, .set #[] 0 (.fresh 0 0 b), #[]⟩
section
variable {prog : Program} {w : World} {A : Around} {E : Value → Shared → Prop}
noncomputable def Told (g : Program) (w : World) (a : Addr) (xs : List Str) (i : Nat) (h : Heap) : Prop := h.SetOf (strKind g w) a (fun z => (xs.take i).any (· == z)) (cnt xs i)
theorem Told.keep {a : Addr} {xs : List Str} {i : Nat} {h h' : Heap} (T : Told prog w a xs i h) (k : ∀ o, h.get? a = some o → h'.get? a = some o) : Told prog w a xs i h' := by
  obtain ⟨o, es, ep, tb, at', more⟩ := T
  exact ⟨o, es, ep, tb, k o at', more⟩
theorem told_next {a : Addr} {xs : List Str} {i : Nat} {h : Heap} (hi : i < xs.length)
    (T : h.SetOf (strKind prog w) a (fun z => (xs.take i).any (· == z) || decide (z = xs.getD i Str.empty)) (if (xs.take i).any (· == xs.getD i Str.empty) = true then cnt xs i else cnt xs i + 1)) : Told prog w a xs (i + 1) h := by
  refine SetOf_congr T (fun z => ?_) rfl
  have e : xs.take (i + 1) = xs.take i ++ [xs.getD i Str.empty] := by
    rw [List.take_succ, List.getElem?_eq_getElem hi, List.getD_eq_getElem?_getD, List.getElem?_eq_getElem hi]
    rfl
  rw [e, List.any_append]
  congr 1
  by_cases q : z = xs.getD i Str.empty
  · rw [decide_eq_true q, q]; simp
  · rw [decide_eq_false q]
    have : (xs.getD i Str.empty == z) = false := beq_eq_false_iff_ne.mpr fun z' => q z'.symm
    rw [List.any_cons, this]
    rfl
theorem add_str {a : Addr} {xs : List Str} {i : Nat} {u : Tok} {s : Shared} {Q : Bool → Shared → Prop} (hi : i < xs.length) (room : i + 1 < scanBound) (T : Told prog w a xs i s.heap)
    (q : ∀ h' b, Heap.SameBut a s.heap h' → Told prog w a xs (i + 1) h' → Q b ⟨h', s.gens, s.drawn, s.toks + 1, s.os⟩) : wpAny (model prog w) A (setAdd a (.str (xs.getD i Str.empty) u)) Q E s := by
  have fits := Nat.lt_of_le_of_lt (Nat.succ_le_succ (cnt_le xs i)) room
  unfold setAdd
  refine wpAny_holding (wpAny_bind ((strKind prog w).pyHash (strKind_is _ _ _ u) ?_))
  exact wpAny_setAddHashed_of (s := { s with toks := s.toks + 1 }) (strKind_is _ _ _ _) rfl T fits fun h' same T2 => q h' _ same (told_next hi T2)
theorem fill {R : Result → Shared → Prop} {it a : Addr} {fp wr : List Addr} {G : Array GenState → Array GenState → Prop} {P : Nat → Value → Prop} {St : Nat → Shared → Prop} (xs : List Str)
    (W : WalksS prog w A.in1 it fp wr G xs.length P St) (ha : a ∉ fp) (room : xs.length < scanBound) (each : ∀ i v, P i v → ∃ u, v = .str (xs.getD i Str.empty) u) :
    ∀ (j i : Nat) (s : Shared), i + j = xs.length → St i s → Told prog w a xs i s.heap → (∀ z, Moved (a :: wr) G s z → Told prog w a xs xs.length z.heap → R (.ok (.ret .none)) z) →
      codeAny (model prog w) A (.builtin "set.update.loop" ⟨[.ref a, .ref it], []⟩) R s := by
  have out : a ∉ wr := fun z => ha (W.sub a z)
  have more : ∀ {s z : Shared}, Moved wr G s z → Moved (a :: wr) G s z := fun m => m.mono fun b hb => .tail _ hb
  intro j
  induction j with
  | zero =>
    intro i s e st T fin
    obtain rfl : i = xs.length := by omega
    refine codeAny_builtin F.entry_set_update_loop ?_
    rw [Around.under_plainId F.plain_set_update_loop _]
    refine wpAny_bind (f := fun x => _) (W.done s _ _ st fun z m => ?_)
    exact wpAny_pure (M := model prog w) (A := A.in1) (fin z (more m) (T.keep fun o h => m.heap a o out h))
  | succ j ih =>
    intro i s e st T fin
    have lt : i < xs.length := by omega
    refine codeAny_builtin F.entry_set_update_loop ?_
    rw [Around.under_plainId F.plain_set_update_loop _]
    refine wpAny_bind (f := fun x => _) (W.item i s _ _ lt st fun v z hv st' m => ?_)
    obtain ⟨u, rfl⟩ := each i v hv
    refine wpAny_bind (f := fun x => _) (wpAny_holding (add_str lt (by omega) (T.keep fun o h => m.heap a o out h) fun h' b same T' => ?_))
    refine wpAny_pure (M := model prog w) (A := A.in1) ⟨plainId_quiet F.plain_set_update_loop _, ih (i + 1) _ (by omega) (W.frame _ z _ _ st' (Nat.le_succ _) fun b hb o h => (same.2 b fun q => ha (q ▸ hb)).trans h) T' fun z' m' T2 => fin z' ?_ T2⟩
    exact ((more m).then_heap (Nat.le_succ _) fun b o hb h => (same.2 b fun q => hb (q ▸ List.mem_cons_self ..)).trans h).trans W.gtrans m'
end
end SetS
namespace L2
open PySem PySem.Spec PyProof.Rows
end L2
namespace Tw
def aRfl : Lean.Syntax := .node .none `Lean.Parser.Tactic.tacticSeq #[.node .none `Lean.Parser.Tactic.tacticSeq1Indented #[.node .none `null #[.node .none `Lean.Parser.Tactic.tacticRfl #[.atom .none "rfl"]]]]
open PySem PySem.Spec PyProof.Rows L2 TL
class Rep (α : Type) where
  rp : PySem.W.Frag → Hp → V → α → Prop
  mono : ∀ {K : PySem.W.Frag} {F F' : Hp} {v : V} {x : α}, Same F F' → rp K F v x → rp K F' v x
noncomputable abbrev rp {α : Type} {i : Rep α} (K : PySem.W.Frag) (F : Hp) (v : V) (x : α) : Prop := i.rp K F v x
noncomputable abbrev Tx := List Nat
noncomputable def sx (x : Tx) : Str := ⟨x.toArray⟩
theorem tl_sx (x : Tx) : tl (sx x) = x := rfl
theorem sx_tl (x : Str) : sx (tl x) = x := mk_tl x
theorem sx_inj {x y : Tx} (h : sx x = sx y) : x = y := by have := congrArg tl h; simpa [tl_sx] using this
theorem sx_len (x : Tx) : (sx x).length = x.length := by rw [len_tl]; rfl
theorem sx_app (x y : Tx) : sx x ++ sx y = sx (x ++ y) := ext_tl (by rw [tl_append]; rfl)
noncomputable instance repInt : Rep Int := ⟨fun _ _ v x => v = .int x, fun _ h => h⟩
noncomputable instance repBool : Rep Bool := ⟨fun _ _ v x => v = .bl x, fun _ h => h⟩
noncomputable instance repUnit : Rep Unit := ⟨fun _ _ v _ => v = .non, fun _ h => h⟩
noncomputable instance repTx : Rep (List Nat) := ⟨fun _ _ v x => v = .str (sx x), fun _ h => h⟩
noncomputable instance repList {α : Type} [i : Rep α] : Rep (List α) := ⟨fun K H v xs => ∃ a vs, v = .ref a ∧ H a = some (.lst vs) ∧ Paired (fun u x => i.rp K H u x) vs xs,
  fun s ⟨a, vs, e, h, p⟩ => ⟨a, vs, e, s _ _ h, Paired.mapP p fun _ _ q => i.mono s q⟩⟩
set_option genInjectivity true in
structure Tup (α : Type) where
  l : List α
noncomputable instance repTup {α : Type} [i : Rep α] : Rep (Tup α) := ⟨fun K H v xs => ∃ a vs, v = .ref a ∧ H a = some (.tup vs) ∧ Paired (fun u x => i.rp K H u x) vs xs.l,
  fun s ⟨a, vs, e, h, p⟩ => ⟨a, vs, e, s _ _ h, Paired.mapP p fun _ _ q => i.mono s q⟩⟩
noncomputable instance repPair {α β : Type} [i : Rep α] [j : Rep β] : Rep (α × β) := ⟨fun K H v x => ∃ a u w, v = .ref a ∧ H a = some (.tup [u, w]) ∧ i.rp K H u x.1 ∧ j.rp K H w x.2,
  fun s ⟨a, u, w, e, h, p, q⟩ => ⟨a, u, w, e, s _ _ h, i.mono s p, j.mono s q⟩⟩
noncomputable instance repOpt {α : Type} [i : Rep α] : Rep (Option α) := ⟨fun K H v x => match x with | none => v = .non | some y => i.rp K H v y,
  fun {K F F' v x} s h => by cases x with | none => exact h | some y => exact i.mono s h⟩
structure Scr where
  l : List Int
noncomputable instance repScr : Rep Scr := ⟨fun K H v x => ∃ a, v = .ref a ∧ SqL K H a (x.l.map V.int), fun s ⟨a, e, h⟩ => ⟨a, e, s.seq h⟩⟩
noncomputable abbrev Rps {α : Type} [i : Rep α] (K : PySem.W.Frag) (F : Hp) (vs : List V) (xs : List α) : Prop := Paired (fun u x => i.rp K F u x) vs xs
section
variable {α β : Type} [i : Rep α] [j : Rep β] {K : PySem.W.Frag} {F F' : Hp} {vs : List V} {xs : List α}
theorem Rps.mono (s : Same F F') (h : Rps K F vs xs) : Rps K F' vs xs := Paired.mapP h fun _ _ q => i.mono s q
theorem Rps.len (h : Rps K F vs xs) : vs.length = xs.length := Paired.length h
theorem pgetL {A B : Type} {G : A → B → Prop} : ∀ {l : List A} {m : List B} {k : Nat} {b : B}, Paired G l m → m[k]? = some b → ∃ a, l[k]? = some a ∧ G a b
  | _, _, 0, _, .cons r _, e => by simp at e; subst e; exact ⟨_, rfl, r⟩
  | _, _, k + 1, b, .cons _ t, e => by
    obtain ⟨a, h1, h2⟩ := pgetL (k := k) (b := b) t (by simpa using e)
    exact ⟨a, by simpa using h1, h2⟩
theorem ptake {A B : Type} {G : A → B → Prop} : ∀ {l : List A} {m : List B} (n : Nat), Paired G l m → Paired G (l.take n) (m.take n)
  | _, _, 0, _ => .nil
  | _, _, _ + 1, .nil => .nil
  | _, _, n + 1, .cons r t => .cons r (ptake n t)
theorem pdrop {A B : Type} {G : A → B → Prop} : ∀ {l : List A} {m : List B} (n : Nat), Paired G l m → Paired G (l.drop n) (m.drop n)
  | _, _, 0, r => r
  | _, _, _ + 1, .nil => .nil
  | _, _, n + 1, .cons _ t => pdrop n t
theorem papp {A B : Type} {G : A → B → Prop} : ∀ {l l' : List A} {m m' : List B}, Paired G l m → Paired G l' m' → Paired G (l ++ l') (m ++ m')
  | _, _, _, _, .nil, s => s
  | _, _, _, _, .cons r t, s => .cons r (papp t s)
theorem Rps.bls {ns : List Bool} : ∀ {vs : List V}, Paired (fun u x => repBool.rp K F u x) vs ns → vs = ns.map V.bl := by
  induction ns with
  | nil => intro vs h; cases h; rfl
  | cons n ns ih =>
    intro vs h
    cases h with
    | cons r t =>
      obtain rfl : _ = V.bl n := r
      rw [ih t]
      rfl
theorem Rps.strs {ns : List Tx} : ∀ {vs : List V}, Paired (fun u x => repTx.rp K F u x) vs ns → vs = (ns.map sx).map V.str := by
  induction ns with
  | nil => intro vs h; cases h; rfl
  | cons n ns ih =>
    intro vs h
    cases h with
    | cons r t =>
      obtain rfl : _ = V.str (sx n) := r
      rw [ih t]
      rfl
end
structure ExtM (M : Addr → Prop) (F H F' H' : Hp) : Prop where
  ff : Same F F'
  fh : Same F' H'
  hh : ∀ b o, ¬ M b → H b = some o → H' b = some o
  nwM : ∀ a, ¬ M a → F a = none → H a ≠ none → F' a = none
  th : ∀ a, M a → H a ≠ none → H' a ≠ none
noncomputable abbrev M0 : Addr → Prop := fun _ => False
noncomputable abbrev Ext := ExtM M0
theorem Ext.hs {F H F' H' : Hp} (e : Ext F H F' H') : Same H H' := fun b o h => e.hh b o (fun z => z) h
theorem Ext.refl {F H : Hp} (h : Same F H) : Ext F H F H := ⟨Same.refl F, h, fun _ _ _ h => h, fun _ _ h _ => h, fun _ z => z.elim⟩
theorem ExtM.nw {F H F' H' : Hp} (e : Ext F H F' H') (a : Addr) (h1 : F a = none) (h2 : H a ≠ none) : F' a = none := e.nwM a (fun z => z) h1 h2
theorem ExtM.trans {M : Addr → Prop} {F H F1 H1 F2 H2 : Hp} (a : ExtM M F H F1 H1) (b : Ext F1 H1 F2 H2) : ExtM M F H F2 H2 :=
  have keep : ∀ x, H1 x ≠ none → H2 x ≠ none := fun x h z => by
    cases q : H1 x with
    | none => exact h q
    | some o => rw [b.hs _ _ q] at z; cases z
  ⟨a.ff.trans b.ff, b.fh, fun x o hx h => b.hs _ _ (a.hh x o hx h), fun x hx h1 h2 => b.nw x (a.nwM x hx h1 h2) (by
    intro z
    cases q : H x with
    | none => exact h2 q
    | some o => rw [a.hh x o hx q] at z; cases z), fun x hx h => keep x (a.th x hx h)⟩
theorem Ext.trans {F H F1 H1 F2 H2 : Hp} (a : Ext F H F1 H1) (b : Ext F1 H1 F2 H2) : Ext F H F2 H2 := ExtM.trans a b
theorem Ext.new {F H : Hp} (h : Same F H) {p : Addr} {o : HO} (hp : H p = none) : Ext F H (upd F p o) (upd H p o) := by
  have fp : F p = none := h.free hp
  refine ⟨fun b u e => ?_, fun b u e => ?_, fun b u _ e => ?_, fun b _ e ne => ?_, fun _ z => z.elim⟩
  · rw [upd_ne (ne_of_none e fp)]; exact e
  · by_cases hb : b = p
    · subst hb; rw [upd_same] at e ⊢; exact e
    · rw [upd_ne hb] at e ⊢; exact h _ _ e
  · rw [upd_ne (ne_of_none e hp)]; exact e
  · rw [upd_ne (fun z => by subst z; exact ne hp)]; exact e
theorem Ext.apart {F H : Hp} (h : Same F H) {p : Addr} {o : HO} (hp : H p = none) : Ext F H F (upd H p o) :=
  ⟨Same.refl F, fun b u e => by rw [upd_ne (ne_of_none (h _ _ e) hp)]; exact h _ _ e, fun b u _ e => by rw [upd_ne (ne_of_none e hp)]; exact e, fun _ _ e _ => e, fun _ z => z.elim⟩
theorem same_upd {F H : Hp} (h : Same F H) {p : Addr} {o : HO} (fp : F p = none) : Same F (upd H p o) := fun b u e => by
  rw [upd_ne (ne_of_none e fp)]; exact h _ _ e
structure Own where
  fp : List Addr
  root : V
  ok : PySem.W.Frag → Hp → Hp → V → Prop
  stay : ∀ {K : PySem.W.Frag} {F F' H H' : Hp} {v : V}, Same F F' → (∀ b ∈ fp, ∀ o, H b = some o → H' b = some o) → ok K F H v → ok K F' H' v
  there : ∀ {K : PySem.W.Frag} {F H : Hp} {v : V}, ok K F H v → ∀ b ∈ fp, H b ≠ none
  rt : ∀ {K : PySem.W.Frag} {F H : Hp} {v : V}, ok K F H v → v = root
noncomputable def ownL {α : Type} (i : Rep α) (a : Addr) (xs : List α) : Own where
  fp := [a]
  root := .ref a
  ok := fun K F H v => v = .ref a ∧ ∃ vs, H a = some (.lst vs) ∧ Paired (fun u x => i.rp K F u x) vs xs
  stay := fun s k ⟨e, vs, h, p⟩ => ⟨e, vs, k a (List.mem_singleton.mpr rfl) _ h, Paired.mapP p fun _ _ q => i.mono s q⟩
  there := fun ⟨_, vs, h, _⟩ b hb z => by rw [List.mem_singleton.mp hb, h] at z; cases z
  rt := fun h => h.1
set_option genInjectivity true in
inductive Slot : Type 1 where
  | no
  | val {α : Type} (i : Rep α) (x : α)
  | own (o : Own)
noncomputable abbrev Slot.lst {α : Type} (i : Rep α) (a : Addr) (xs : List α) : Slot := .own (ownL i a xs)
noncomputable abbrev vl {α : Type} [i : Rep α] (x : α) : Slot := .val i x
noncomputable abbrev ls {α : Type} [i : Rep α] (a : Addr) (xs : List α) : Slot := .lst i a xs
set_option genInjectivity true in
inductive Ret : Type 1 where
  | val {α : Type} (i : Rep α) (x : α)
  | new {α : Type} (i : Rep α) (xs : List α)
  | own (P : Own → Prop)
  | chg {α : Type} (i : Rep α) (x : α) (os : List Own)
noncomputable abbrev rv {α : Type} [i : Rep α] (x : α) : Ret := .val i x
noncomputable abbrev rn {α : Type} [i : Rep α] (xs : List α) : Ret := .new i xs
structure Bs where
  F : Hp
  H : Hp
  M : Addr → Prop
noncomputable def Bs.nw (B : Bs) (b : Addr) : Prop := B.H b = none ∨ B.M b
noncomputable def SlotOk (K : PySem.W.Frag) (B : Bs) (F H : Hp) (ov : Option V) : Slot → Prop
  | .no => True
  | .val i x => ∃ v, ov = some v ∧ i.rp K F v x
  | .own o => ∃ v, ov = some v ∧ o.ok K F H v ∧ ∀ b ∈ o.fp, F b = none ∧ B.nw b
noncomputable def Slot.isOwn : Slot → Bool
  | .own _ => true
  | _ => false
noncomputable def Apart (Γ : List Slot) : Prop := ∀ (i j : Nat) o1 o2, i ≠ j → Γ[i]? = some (.own o1) → Γ[j]? = some (.own o2) → ∀ b ∈ o1.fp, b ∉ o2.fp
structure Lc (K : PySem.W.Frag) (B : Bs) (F H : Hp) (σ : L2.St) (Γ : List Slot) : Prop where
  ext : ExtM B.M B.F B.H F H
  len : σ.length = Γ.length
  ok : ∀ (i : Nat) s, Γ[i]? = some s → SlotOk K B F H (σ[i]?).join s
  ap : Apart Γ
section
variable {K : PySem.W.Frag} {B : Bs} {F H F' H' : Hp} {σ : L2.St} {Γ : List Slot} {α : Type} {i : Rep α}
theorem Lc.same (L : Lc K B F H σ Γ) : Same F H := L.ext.fh
theorem Lc.there (L : Lc K B F H σ Γ) : ∀ x, B.M x → B.H x ≠ none → H x ≠ none := L.ext.th
theorem Lc.nw (L : Lc K B F H σ Γ) {b : Addr} (h : H b = none) : B.nw b := by
  by_cases hm : B.M b
  · exact .inr hm
  · refine .inl ?_
    cases q : B.H b with
    | none => rfl
    | some o => rw [L.ext.hh b o hm q] at h; cases h
theorem SlotOk.step {ov : Option V} {s : Slot} (e : Ext F H F' H') (h : SlotOk K B F H ov s) : SlotOk K B F' H' ov s := by
  cases s with
  | no => trivial
  | val i x => obtain ⟨v, e1, r⟩ := h; exact ⟨v, e1, i.mono e.ff r⟩
  | own o =>
    obtain ⟨v, e1, ok, f⟩ := h
    exact ⟨v, e1, o.stay e.ff (fun b _ u q => e.hs _ _ q) ok, fun b hb => ⟨e.nw b (f b hb).1 (o.there ok b hb), (f b hb).2⟩⟩
theorem Lc.step (L : Lc K B F H σ Γ) (e : Ext F H F' H') : Lc K B F' H' σ Γ := ⟨L.ext.trans e, L.len, fun j s h => (L.ok j s h).step e, L.ap⟩
theorem slot_val {k : Nat} {x : α} (L : Lc K B F H σ Γ) (h : Γ[k]? = some (.val i x)) : ∃ v, σ[k]? = some (some v) ∧ i.rp K F v x := by
  obtain ⟨v, e, r⟩ := L.ok k _ h
  refine ⟨v, ?_, r⟩
  cases q : σ[k]? with
  | none => rw [q] at e; cases e
  | some o => rw [q] at e; rw [← e]; rfl
theorem slot_own {k : Nat} {o : Own} (L : Lc K B F H σ Γ) (h : Γ[k]? = some (.own o)) : ∃ v, σ[k]? = some (some v) ∧ o.ok K F H v ∧ ∀ b ∈ o.fp, F b = none ∧ B.nw b := by
  obtain ⟨v, e, r⟩ := L.ok k _ h
  refine ⟨v, ?_, r⟩
  cases q : σ[k]? with
  | none => rw [q] at e; cases e
  | some o => rw [q] at e; rw [← e]; rfl
theorem slot_lst {k : Nat} {a : Addr} {xs : List α} (L : Lc K B F H σ Γ) (h : Γ[k]? = some (.lst i a xs)) :
    ∃ vs, σ[k]? = some (some (.ref a)) ∧ F a = none ∧ B.nw a ∧ H a = some (.lst vs) ∧ Paired (fun u x => i.rp K F u x) vs xs := by
  obtain ⟨v, e, ⟨rfl, vs, h1, p⟩, f⟩ := slot_own L h
  exact ⟨vs, e, (f a (List.mem_singleton.mpr rfl)).1, (f a (List.mem_singleton.mpr rfl)).2, h1, p⟩
theorem get_set_join {σ : L2.St} {k j : Nat} {o : Option V} : ((σ.set k o)[j]?).join = if k = j ∧ j < σ.length then o else (σ[j]?).join := by
  by_cases h : k = j
  · subst h
    by_cases hl : k < σ.length
    · rw [List.getElem?_set_self hl, if_pos ⟨rfl, hl⟩]; rfl
    · rw [List.getElem?_eq_none (by simpa using hl), if_neg (fun z => hl z.2), List.getElem?_eq_none (by simpa using hl)]
  · rw [List.getElem?_set_ne h, if_neg (fun z => h z.1)]
theorem get_set_slot {Γ : List Slot} {k j : Nat} {o s : Slot} (h : (Γ.set k o)[j]? = some s) : (k = j ∧ j < Γ.length ∧ s = o) ∨ (k ≠ j ∧ Γ[j]? = some s) := by
  by_cases e : k = j
  · subst e
    have hl : k < Γ.length := by
      have := (List.getElem?_eq_some_iff.mp h).1
      simpa using this
    rw [List.getElem?_set_self hl] at h
    exact .inl ⟨rfl, hl, (Option.some.inj h).symm⟩
  · rw [List.getElem?_set_ne e] at h
    exact .inr ⟨e, h⟩
theorem Apart.put (A : Apart Γ) (k : Nat) {s : Slot} (hs : s.isOwn = false) : Apart (Γ.set k s) := fun i j o1 o2 hij h1 h2 => by
  rcases get_set_slot h1 with ⟨_, _, e⟩ | ⟨_, h1⟩
  · rw [← e] at hs; cases hs
  rcases get_set_slot h2 with ⟨_, _, e⟩ | ⟨_, h2⟩
  · rw [← e] at hs; cases hs
  exact A i j o1 o2 hij h1 h2
theorem Apart.putO (A : Apart Γ) (k : Nat) {o : Own} (h : ∀ (j : Nat) o', k ≠ j → Γ[j]? = some (.own o') → ∀ b ∈ o.fp, b ∉ o'.fp) : Apart (Γ.set k (.own o)) := fun i j o1 o2 hij h1 h2 b hb1 hb2 => by
  rcases get_set_slot h1 with ⟨k1, _, e⟩ | ⟨n1, h1⟩
  · cases e
    rcases get_set_slot h2 with ⟨k2, _, e⟩ | ⟨n2, h2⟩
    · exact hij (k1.symm.trans k2)
    · exact h j o2 n2 h2 b hb1 hb2
  · rcases get_set_slot h2 with ⟨k2, _, e⟩ | ⟨n2, h2⟩
    · cases e
      exact h i o1 n1 h1 b hb2 hb1
    · exact A i j o1 o2 hij h1 h2 b hb1 hb2
theorem Lc.put (L : Lc K B F H σ Γ) (k : Nat) {ov : Option V} {s : Slot} (hs : s.isOwn = false) (ho : SlotOk K B F H ov s) : Lc K B F H (σ.set k ov) (Γ.set k s) := by
  refine ⟨L.ext, by simp [L.len], fun j t h => ?_, L.ap.put k hs⟩
  rw [get_set_join]
  rcases get_set_slot h with ⟨e1, e2, rfl⟩ | ⟨e1, h⟩
  · rw [if_pos ⟨e1, by rw [L.len]; exact e2⟩]; exact ho
  · rw [if_neg fun z => e1 z.1]; exact L.ok j t h
theorem Lc.putV (L : Lc K B F H σ Γ) (k : Nat) {v : V} {x : α} (r : i.rp K F v x) : Lc K B F H (σ.set k (some v)) (Γ.set k (.val i x)) := L.put k rfl ⟨v, rfl, r⟩
theorem Lc.putN (L : Lc K B F H σ Γ) (k : Nat) (o : Option V) : Lc K B F H (σ.set k o) (Γ.set k .no) := L.put k rfl trivial
theorem Lc.ne_own (L : Lc K B F H σ Γ) {b : Addr} (hb : H b = none) {j : Nat} {o : Own} (h : Γ[j]? = some (.own o)) : b ∉ o.fp := fun hm => by
  obtain ⟨v, _, ok, _⟩ := slot_own L h
  exact o.there ok b hm hb
theorem Lc.putO (L : Lc K B F H σ Γ) (k : Nat) (e : Ext F H F' H') {o : Own} {v : V} (new : ∀ b ∈ o.fp, H b = none ∧ F' b = none) (ok : o.ok K F' H' v) : Lc K B F' H' (σ.set k (some v)) (Γ.set k (.own o)) := by
  have L' := L.step e
  refine ⟨L'.ext, by simp [L.len], fun j t h => ?_, L.ap.putO k fun j o' _ h b hb => L.ne_own (new b hb).1 h⟩
  rw [get_set_join]
  rcases get_set_slot h with ⟨e1, e2, rfl⟩ | ⟨e1, h⟩
  · rw [if_pos ⟨e1, by rw [L.len]; exact e2⟩]
    exact ⟨v, rfl, ok, fun b hb => ⟨(new b hb).2, L.nw (new b hb).1⟩⟩
  · rw [if_neg fun z => e1 z.1]; exact L'.ok j t h
theorem Lc.putL (L : Lc K B F H σ Γ) (k : Nat) (e : Ext F H F' H') {a : Addr} {vs : List V} {xs : List α} (ha : H a = none) (fa : F' a = none) (h' : H' a = some (.lst vs)) (p : Paired (fun u x => i.rp K F' u x) vs xs) :
    Lc K B F' H' (σ.set k (some (.ref a))) (Γ.set k (.lst i a xs)) := L.putO k e (fun b hb => by rw [List.mem_singleton.mp hb]; exact ⟨ha, fa⟩) ⟨rfl, vs, h', p⟩
theorem Lc.updO (L : Lc K B F H σ Γ) {k : Nat} {o o' : Own} {v : V} (hk : Γ[k]? = some (.own o)) (hv : σ[k]? = some (some v)) (keep : ∀ b u, b ∉ o.fp → H b = some u → H' b = some u) (old : ∀ b ∈ o.fp, H' b ≠ none)
    (fp : ∀ b ∈ o'.fp, b ∈ o.fp ∨ H b = none) (ok : o'.ok K F H' v) : Lc K B F H' σ (Γ.set k (.own o')) := by
  obtain ⟨_, _, _, f⟩ := slot_own L hk
  have nfp : ∀ b u, F b = some u → b ∉ o.fp := fun b u q hb => by rw [(f b hb).1] at q; cases q
  refine ⟨⟨L.ext.ff, fun b u q => keep b u (nfp b u q) (L.same _ _ q), fun b u nb q => ?_, L.ext.nwM, fun x hx hb => ?_⟩, by simp [L.len], fun q t h => ?_, L.ap.putO k fun j o2 hj h b hb => ?_⟩
  · refine keep b u (fun hb => ?_) (L.ext.hh b u nb q)
    rcases (f b hb).2 with z | z
    · rw [z] at q; cases q
    · exact nb z
  · by_cases hm : x ∈ o.fp
    · exact old x hm
    · have := L.there x hx hb
      cases q : H x with
      | none => exact absurd q this
      | some u => rw [keep x u hm q]; exact fun z => nomatch z
  · rcases get_set_slot h with ⟨e1, e2, rfl⟩ | ⟨e1, hq⟩
    · subst e1
      rw [hv]
      refine ⟨v, rfl, ok, fun b hb => ?_⟩
      rcases fp b hb with z | z
      · exact f b z
      · exact ⟨L.same.free z, L.nw z⟩
    · have old' := L.ok q t hq
      cases t with
      | no => trivial
      | val i x => exact old'
      | own o2 =>
        obtain ⟨u, eu, ok2, f2⟩ := old'
        exact ⟨u, eu, o2.stay (Same.refl F) (fun b hb w q1 => keep b w (fun hb2 => L.ap k q o o2 e1 hk hq b hb2 hb) q1) ok2, f2⟩
  · rcases fp b hb with z | z
    · exact L.ap k j o o2 hj hk h b z
    · exact L.ne_own z h
theorem Lc.updL (L : Lc K B F H σ Γ) {k : Nat} {a : Addr} {β : Type} {j : Rep β} {ys : List β} {vs' : List V} {xs' : List α} (hk : Γ[k]? = some (.lst j a ys)) (p : Paired (fun u x => i.rp K F u x) vs' xs') :
    Lc K B F (upd H a (.lst vs')) σ (Γ.set k (.lst i a xs')) := by
  obtain ⟨vs, ea, _⟩ := slot_lst L hk
  refine L.updO hk ea (fun b u hb q => ?_) (fun b hb => ?_) (fun b hb => .inl hb) ⟨rfl, vs', upd_same, p⟩
  · rw [upd_ne (fun z => hb (List.mem_singleton.mpr z))]; exact q
  · rw [List.mem_singleton.mp hb, upd_same]; exact fun z => nomatch z
end
section
variable {X : Cx} {σ : L2.St} {H : Hp}
structure WE (X : Cx) (e : Expr) (σ : L2.St) (H : Hp) (Q : VK) : Prop where
  go : ∀ pins s, Inv X pins σ H s → wpAny (model X.prog X.w) X.A (eval e X.env) (EP X pins σ Q) X.xe s
structure WT (X : Cx) (e : Expr) (σ : L2.St) (H : Hp) (Q : Bool → Hp → Prop) : Prop where
  go : ∀ pins s, Inv X pins σ H s → wpAny (model X.prog X.w) X.A (isTrue e X.env (eval e X.env)) (TP X pins σ Q) X.xe s
structure WA (X : Cx) (es : List Expr) (σ : L2.St) (H : Hp) (Q : List V → Hp → Prop) : Prop where
  go : ∀ pos pins s, Inv X pins σ H s → wpAny (model X.prog X.w) X.A (spliced (backTo pos (starEach es X.env))) (AP X pins σ Q) X.xe s
structure WP (X : Cx) (st : List Stmt) (D : Ends) (σ : L2.St) (H : Hp) : Prop where
  go : ∀ pins s, Inv X pins σ H s → wpAny (model X.prog X.w) X.A (execs st X.env) (SP X pins D) X.xe s
theorem peW {e : Expr} : PE X e (WE X e) := ⟨fun pins s _ _ _ I h => h.go pins s I⟩
theorem ptW {e : Expr} : PT X e (WT X e) := ⟨fun pins s _ _ _ I h => h.go pins s I⟩
theorem paW {es : List Expr} : PA X es (WA X es) := ⟨fun pos pins s _ _ _ I h => h.go pos pins s I⟩
theorem psW {st : List Stmt} : PSs X st (WP X st) := ⟨fun pins s _ _ _ I h => h.go pins s I⟩
theorem WE.of {e : Expr} {t : TE} {Q : VK} (p : PE X e t) (h : t σ H Q) : WE X e σ H Q := ⟨fun pins s I => p.run pins s σ H Q I h⟩
theorem WT.of {e : Expr} {t : TT} {Q : Bool → Hp → Prop} (p : PT X e t) (h : t σ H Q) : WT X e σ H Q := ⟨fun pins s I => p.run pins s σ H Q I h⟩
theorem WA.of {es : List Expr} {t : TA} {Q : List V → Hp → Prop} (p : PA X es t) (h : t σ H Q) : WA X es σ H Q := ⟨fun pos pins s I => p.run pos pins s σ H Q I h⟩
theorem WP.of {st : List Stmt} {t : TS} {D : Ends} (p : PSs X st t) (h : t D σ H) : WP X st D σ H := ⟨fun pins s I => p.run pins s σ H D I h⟩
theorem WP.cons {st : Stmt} {rest : List Stmt} {t : TS} {D : Ends} (p : PS X st t) (h : t { D with nx := fun σ' H' => WP X rest D σ' H' } σ H) : WP X (st :: rest) D σ H :=
  WP.of (pss_cons p psW) h
end
noncomputable def ROk (K : PySem.W.Frag) (N : Addr → Prop) (F' H' : Hp) (v : V) : Ret → Prop
  | .val i x => i.rp K F' v x
  | .new i xs => ∃ a vs, v = .ref a ∧ N a ∧ F' a = none ∧ H' a = some (.lst vs) ∧ Paired (fun u x => i.rp K F' u x) vs xs
  | .own P => ∃ o, P o ∧ (∀ b ∈ o.fp, N b ∧ F' b = none) ∧ o.ok K F' H' v
  | .chg i x os => i.rp K F' v x ∧ (∀ o ∈ os, o.ok K F' H' o.root ∧ ∀ b ∈ o.fp, N b ∧ F' b = none) ∧ os.Pairwise fun o1 o2 => ∀ b ∈ o1.fp, b ∉ o2.fp
noncomputable abbrev Nw (H : Hp) : Addr → Prop := fun b => H b = none
theorem ROk.imp {K : PySem.W.Frag} {N N' : Addr → Prop} {F' H' : Hp} {v : V} {r : Ret} (h : ROk K N F' H' v r) (n : ∀ b, N b → N' b) : ROk K N' F' H' v r := by
  cases r with
  | val i x => exact h
  | new i xs => obtain ⟨a, vs, e, h1, h2⟩ := h; exact ⟨a, vs, e, n a h1, h2⟩
  | own P => obtain ⟨o, p, f, ok⟩ := h; exact ⟨o, p, fun b hb => ⟨n b (f b hb).1, (f b hb).2⟩, ok⟩
  | chg i x os => obtain ⟨r, f, d⟩ := h; exact ⟨r, fun o ho => ⟨(f o ho).1, fun b hb => ⟨n b ((f o ho).2 b hb).1, ((f o ho).2 b hb).2⟩⟩, d⟩
noncomputable def EX (X : Cx) (Γ : List Slot) (e : Expr) (P : Ret → Prop) : Prop :=
  ∀ B F H σ Q, Lc X.K B F H σ Γ → (∀ r v F' H', P r → Ext F H F' H' → ROk X.K (Nw H) F' H' v r → Q v H') → WE X e σ H Q
noncomputable def EV (X : Cx) (Γ : List Slot) (e : Expr) {α : Type} [i : Rep α] (x : α) : Prop :=
  ∀ B F H σ Q, Lc X.K B F H σ Γ → (∀ v F' H', Ext F H F' H' → i.rp X.K F' v x → Q v H') → WE X e σ H Q
noncomputable def EN (X : Cx) (Γ : List Slot) (e : Expr) {α : Type} [i : Rep α] (xs : List α) : Prop :=
  ∀ B F H σ Q, Lc X.K B F H σ Γ → (∀ a vs F' H', Ext F H F' H' → H a = none → F' a = none → H' a = some (.lst vs) → Paired (fun u x => i.rp X.K F' u x) vs xs → Q (.ref a) H') → WE X e σ H Q
noncomputable def ET (X : Cx) (Γ : List Slot) (e : Expr) (b : Bool) : Prop :=
  ∀ B F H σ Q, Lc X.K B F H σ Γ → (∀ F' H', Ext F H F' H' → Q b H') → WT X e σ H Q
noncomputable def VsOk (K : PySem.W.Frag) (F : Hp) : List V → List Slot → Prop
  | [], [] => True
  | v :: vs, .val i x :: A => i.rp K F v x ∧ VsOk K F vs A
  | _, _ => False
noncomputable def EA (X : Cx) (Γ : List Slot) (es : List Expr) (A : List Slot) : Prop :=
  ∀ B F H σ Q, Lc X.K B F H σ Γ → (∀ vs F' H', Ext F H F' H' → VsOk X.K F' vs A → Q vs H') → WA X es σ H Q
theorem VsOk.mono {K : PySem.W.Frag} {F F' : Hp} (s : Same F F') : ∀ {vs : List V} {A : List Slot}, VsOk K F vs A → VsOk K F' vs A
  | [], [], _ => trivial
  | v :: vs, .val i x :: A, h => ⟨i.mono s h.1, VsOk.mono s h.2⟩
  | [], _ :: _, h => h.elim
  | _ :: _, [], h => h.elim
  | _ :: _, .no :: _, h => h.elim
  | _ :: _, .own _ :: _, h => h.elim
theorem VsOk.len {K : PySem.W.Frag} {F : Hp} : ∀ {vs : List V} {A : List Slot}, VsOk K F vs A → vs.length = A.length
  | [], [], _ => rfl
  | v :: vs, .val i x :: A, h => by rw [List.length_cons, List.length_cons, VsOk.len h.2]
  | [], _ :: _, h => h.elim
  | _ :: _, [], h => h.elim
  | _ :: _, .no :: _, h => h.elim
  | _ :: _, .own _ :: _, h => h.elim
structure Exn where
  cls : Str
  fld : Str
  why : Slot
noncomputable abbrev Spec := List Slot → (Ret → Prop) → (Exn → Prop) → Prop
noncomputable def XOk (K : PySem.W.Frag) (N : Addr → Prop) (F' H' : Hp) (u : Value) (d : Option Addr) (x : Exn) : Prop :=
  ∃ C, u = .ref C ∧ PySem.W.nsIn K mainGlobals x.cls = some (some (.ref C)) ∧
    match x.why with
    | .no => d = none
    | .val i y => ∃ dx w, d = some dx ∧ N dx ∧ F' dx = none ∧ H' dx = some (.xd [(x.fld, w)]) ∧ i.rp K F' w y
    | .own _ => False
theorem XOk.imp {K : PySem.W.Frag} {N N' : Addr → Prop} {F' H' : Hp} {u : Value} {d : Option Addr} {x : Exn} (h : XOk K N F' H' u d x) (n : ∀ a, N a → N' a) : XOk K N' F' H' u d x := by
  obtain ⟨C, e1, e2, h⟩ := h
  refine ⟨C, e1, e2, ?_⟩
  obtain ⟨cls, fld, why⟩ := x
  cases why with
  | no => exact h
  | val i y =>
    obtain ⟨dx, w, e3, e4, h⟩ := h
    exact ⟨dx, w, e3, n _ e4, h⟩
  | own o => exact h
noncomputable def Free (Γ : List Slot) (b : Addr) : Prop := ∀ (k : Nat) o, Γ[k]? = some (.own o) → b ∉ o.fp
noncomputable def XW (X : Cx) : WX := fun cls d σ H => ∀ u s', XE X (fun c d' σ' H' => c = cls ∧ d' = d ∧ σ' = σ ∧ H' = H) u s' → X.xe u s'
theorem XW.of {X : Cx} {W : WX} (tk : Takes X W) {cls : Value} {d : Option Addr} {σ : L2.St} {H : Hp} (h : W cls d σ H) : XW X cls d σ H := fun u s' ⟨a, B, sI, pins, σ', H', cls', d', e, I, nb, up, sky, na, os, ag, e1, e2, e3, e4⟩ => by
  subst e1 e2 e3 e4
  exact tk u s' ⟨a, B, sI, pins, σ', H', cls', d', e, I, nb, up, sky, na, os, ag, h⟩
noncomputable def VsOkO (K : PySem.W.Frag) (F H : Hp) : List V → List Slot → Prop
  | [], [] => True
  | v :: vs, .val i x :: A => i.rp K F v x ∧ VsOkO K F H vs A
  | v :: vs, .own o :: A => o.ok K F H v ∧ (∀ b ∈ o.fp, F b = none) ∧ VsOkO K F H vs A
  | _, _ => False
noncomputable def MA (A : List Slot) : Addr → Prop := fun b => ∃ o, Slot.own o ∈ A ∧ b ∈ o.fp
theorem VsOkO.len {K : PySem.W.Frag} {F H : Hp} : ∀ {vs : List V} {A : List Slot}, VsOkO K F H vs A → vs.length = A.length
  | [], [], _ => rfl
  | v :: vs, .val i x :: A, h => by rw [List.length_cons, List.length_cons, VsOkO.len h.2]
  | v :: vs, .own o :: A, h => by rw [List.length_cons, List.length_cons, VsOkO.len h.2.2]
  | [], _ :: _, h => h.elim
  | _ :: _, [], h => h.elim
  | _ :: _, .no :: _, h => h.elim
theorem VsOk.toO {K : PySem.W.Frag} {F H : Hp} : ∀ {vs : List V} {A : List Slot}, VsOk K F vs A → VsOkO K F H vs A
  | [], [], _ => trivial
  | v :: vs, .val i x :: A, h => ⟨h.1, VsOk.toO h.2⟩
  | [], _ :: _, h => h.elim
  | _ :: _, [], h => h.elim
  | _ :: _, .no :: _, h => h.elim
  | _ :: _, .own _ :: _, h => h.elim
theorem VsOk.no {K : PySem.W.Frag} {F : Hp} : ∀ {vs : List V} {A : List Slot}, VsOk K F vs A → ∀ o, Slot.own o ∉ A
  | [], [], _, _, h => by cases h
  | v :: vs, .val i x :: A, h, o, m => by
    rcases List.mem_cons.mp m with z | z
    · cases z
    · exact VsOk.no h.2 o z
  | [], _ :: _, h, _, _ => h.elim
  | _ :: _, [], h, _, _ => h.elim
  | _ :: _, .no :: _, h, _, _ => h.elim
  | _ :: _, .own _ :: _, h, _, _ => h.elim
theorem VsOk.apart {K : PySem.W.Frag} {F : Hp} {vs : List V} {A : List Slot} (h : VsOk K F vs A) : Apart A := fun i j o1 o2 _ h1 _ => absurd (List.mem_of_getElem? h1) (h.no o1)
theorem VsOk.ma {K : PySem.W.Frag} {F : Hp} {vs : List V} {A : List Slot} (h : VsOk K F vs A) {b : Addr} (m : MA A b) : False := by
  obtain ⟨o, h1, _⟩ := m
  exact h.no o h1
theorem Ext.thenM {M : Addr → Prop} {F H F1 H1 F2 H2 : Hp} (a : Ext F H F1 H1) (b : ExtM M F1 H1 F2 H2) (n : ∀ x, M x → H x = none) : Ext F H F2 H2 :=
  ⟨a.ff.trans b.ff, b.fh, fun x o _ h => b.hh x o (fun m => by rw [n x m] at h; cases h) (a.hs x o h), fun x _ h1 h2 => b.nwM x (fun m => h2 (n x m)) (a.nw x h1 h2) (by
    cases q : H x with
    | none => exact absurd q h2
    | some o => rw [a.hs x o q]; exact fun z => nomatch z), fun _ z => z.elim⟩
noncomputable def spOf (K : PySem.W.Frag) (S : Spec) : Sp := fun vs H Q E => ∃ F A, Same F H ∧ VsOkO K F H vs A ∧ Apart A ∧
  S A (fun r => ∀ v F' H', ExtM (MA A) F H F' H' → ROk K (Bs.nw ⟨F, H, MA A⟩) F' H' v r → Q v H') (fun x => ∀ u d F' H', ExtM (MA A) F H F' H' → XOk K (Bs.nw ⟨F, H, MA A⟩) F' H' u d x → E u d H')
structure Has (P : Program) (w : World) (K : PySem.W.Frag) (mg : Str → Option Value) (base : Heap) (k : Nat) (n : Str) (ps : List Str) (S : Spec) : Prop where
  ex : ∃ f fd, mg n = some (.ref f) ∧ PySem.W.keepIn K (.ref f) = true ∧ Binds K fd ps [] ∧ FnOk P w K mg base (L2.CX P w) k f fd ps (spOf K S)
structure SE where
  nx : List Slot → Prop
  rt : Ret → Prop
  bk : List Slot → Prop
  ct : List Slot → Prop
  ex : List Slot → Exn → Prop
noncomputable abbrev fin (Q : Ret → Prop) : SE := ⟨fun _ => Q (.val repUnit ()), Q, fun _ => False, fun _ => False, fun _ _ => False⟩
noncomputable abbrev finX (Q : Ret → Prop) (R : Exn → Prop) : SE := ⟨fun _ => Q (.val repUnit ()), Q, fun _ => False, fun _ => False, fun _ => R⟩
structure ED (X : Cx) (B : Bs) (F0 : Hp) (E : SE) (D : Ends) : Prop where
  nx : ∀ F H σ Γ, Same F0 F → E.nx Γ → Lc X.K B F H σ Γ → D.nx σ H
  rt : ∀ r v F H, E.rt r → ExtM B.M B.F B.H F H → ROk X.K B.nw F H v r → D.rt v H
  bk : ∀ F H σ Γ, Same F0 F → E.bk Γ → Lc X.K B F H σ Γ → D.bk σ H
  ct : ∀ F H σ Γ, Same F0 F → E.ct Γ → Lc X.K B F H σ Γ → D.ct σ H
  ex : ∀ F H σ Γ x u d, Same F0 F → E.ex Γ x → Lc X.K B F H σ Γ → XOk X.K (fun b => B.nw b ∧ Free Γ b) F H u d x → XW X u d σ H
theorem ED.weak {X : Cx} {B : Bs} {F0 F1 : Hp} {E : SE} {D : Ends} (h : ED X B F0 E D) (s : Same F0 F1) : ED X B F1 E D :=
  ⟨fun F H σ Γ q => h.nx F H σ Γ (s.trans q), h.rt, fun F H σ Γ q => h.bk F H σ Γ (s.trans q), fun F H σ Γ q => h.ct F H σ Γ (s.trans q), fun F H σ Γ x u d q => h.ex F H σ Γ x u d (s.trans q)⟩
noncomputable def ST (X : Cx) (sts : List Stmt) (Γ : List Slot) (E : SE) : Prop :=
  ∀ B F H σ D, Lc X.K B F H σ Γ → ED X B F E D → WP X sts D σ H
noncomputable def noStar : Expr → Bool
  | .Starred .. => false
  | _ => true
theorem star_of {e : Expr} {es : List Expr} {env : Env} (h : noStar e = true) : starEach (e :: es) env = (false, eval e env) :: starEach es env := by
  cases e <;> first | rfl | cases h
theorem pl_of {pos : Pos} {env : Env} : ∀ {es : List Expr}, es.all noStar = true → (backTo pos (starEach es env)).any (·.1) = false
  | [], _ => rfl
  | e :: es, h => by
    rw [List.all_cons, Bool.and_eq_true] at h
    rw [star_of h.1]
    exact pl_of h.2
noncomputable def visB (sc : Scope) (x : Str) : Bool := match sc.names.lookup x with
  | some .local => true
  | some .cell => true
  | some .free => true
  | _ => false
theorem vis_of {sc : Scope} {x : Str} (h : visB sc x = true) : L2.Vis sc x := by
  unfold visB at h
  split at h
  · exact Or.inl (by assumption)
  · exact Or.inr (Or.inl (by assumption))
  · exact Or.inr (Or.inr (by assumption))
  · cases h
noncomputable def locB (sc : Scope) (x : Str) : Bool := match sc.names.lookup x with
  | some .local => true
  | some .cell => true
  | _ => false
theorem loc_of {sc : Scope} {x : Str} (h : locB sc x = true) : L2.Loc sc x := by
  unfold locB at h
  split at h
  · exact Or.inl (by assumption)
  · exact Or.inr (by assumption)
  · cases h
def aSeq (x : Lean.Syntax) : Lean.Syntax := .node .none `Lean.Parser.Tactic.tacticSeq #[.node .none `Lean.Parser.Tactic.tacticSeq1Indented #[.node .none `null #[x]]]
def aEx (n : Lean.Name) : Lean.Syntax := aSeq (.node .none `Lean.Parser.Tactic.exact #[.atom .none "exact", .node .none `Lean.Parser.Term.app #[.ident .none n.toString.toRawSubstring n [.decl n []], .node .none `null #[.ident .none "rfl".toRawSubstring `rfl [.decl `rfl []]]]])
def aStar : Lean.Syntax := aEx `Tw.star_of
def aPl : Lean.Syntax := aEx `Tw.pl_of
def aVis : Lean.Syntax := aEx `Tw.vis_of
def aLoc : Lean.Syntax := aEx `Tw.loc_of
def aHole : Lean.Syntax := .node .none `Lean.Parser.Term.hole #[.atom .none "_"]
def aIn (n : Nat) : Lean.Syntax := .node .none `Lean.Parser.Tactic.tacticSeq #[.node .none `Lean.Parser.Tactic.tacticSeq1Indented #[.node .none `null #[.node .none `Lean.Parser.Tactic.intro #[.atom .none "intro", .node .none `null (Array.replicate n aHole)], .atom .none ";", .node .none `Lean.Parser.Tactic.tacticRfl #[.atom .none "rfl"]]]]
def aIR1 : Lean.Syntax := aIn 1
def aDot (n : Lean.Name) (s : String) : Lean.Syntax := .node .none `group #[.atom .none "|", aSeq (.node .none `Lean.Parser.Tactic.exact #[.atom .none "exact", .node .none `Lean.Parser.Term.app #[.node .none `Lean.Parser.Term.dotIdent #[.atom .none ".", .ident .none s.toRawSubstring n []], .node .none `null #[.ident .none "rfl".toRawSubstring `rfl [.decl `rfl []]]]])]
def aNle : Lean.Syntax := aEx `Nat.le_of_ble_eq_true
def aAlt (x : Lean.Syntax) : Lean.Syntax := .node .none `group #[.atom .none "|", x]
def aPass : Lean.Syntax := aSeq (.node .none `Lean.Parser.Tactic.first #[.atom .none "first", .node .none `null #[aAlt (aSeq (.node .none `Lean.Parser.Tactic.exact #[.atom .none "exact", .ident .none "PySem.PassesOwn.never".toRawSubstring `PySem.PassesOwn.never [.decl `PySem.PassesOwn.never []]])), aAlt (aEx `L2.passes_of), aAlt (aSeq (.node .none `Lean.Parser.Tactic.assumption #[.atom .none "assumption"]))]])
def aFn : Lean.Syntax := aSeq (.node .none `Lean.Parser.Tactic.first #[.atom .none "first", .node .none `null #[aDot `inl "inl", aDot `inr "inr"]])
def aIR2 : Lean.Syntax := aIn 2
def aDec : Lean.Syntax := aSeq (.node .none `Lean.Parser.Tactic.decide #[.atom .none "decide", .node .none `Lean.Parser.Tactic.optConfig #[.node .none `null #[]]])
end Tw
namespace Tw
open PySem PySem.Spec PyProof.Rows L2 TL
noncomputable abbrev tx (s : String) : Tx := s.toList.map Char.toNat
theorem sl_small {n : Nat} (h : n ≤ 1000) : n ≤ sizeLine := Nat.le_trans h (by decide)
theorem sx_tx (s : String) : Str.ofString s = sx (tx s) := ext_tl (by rw [tl_ofString]; rfl)
section
variable {X : Cx} {Γ : List Slot} {α β γ : Type} {i : Rep α} {j : Rep β} {l : Rep γ} {pos p : Pos} {e a b c : Expr} {es : List Expr}
theorem ev_of_ex {x : α} (h : EX X Γ e fun r => r = .val i x) : EV X Γ e x := fun B F H σ Q L q =>
  h B F H σ Q L fun r v F' H' er ex ok => by subst er; exact q v F' H' ex ok
theorem en_of_ex {xs : List α} (h : EX X Γ e fun r => r = .new i xs) : EN X Γ e xs := fun B F H σ Q L q =>
  h B F H σ Q L fun r v F' H' er ex ok => by
    subst er
    obtain ⟨a, vs, rfl, h1, h2, h3, h4⟩ := ok
    exact q a vs F' H' ex h1 h2 h3 h4
theorem ev_of_en {xs : List α} (h : EN X Γ e xs) : EV X Γ e xs := fun B F H σ Q L q =>
  h B F H σ Q L fun a vs F' H' ex ha fa h' p => by
    have sm : Same F' (upd F' a (.lst vs)) := fun b u e => by rw [upd_ne (ne_of_none e fa)]; exact e
    refine q (.ref a) (upd F' a (.lst vs)) H' ⟨ex.ff.trans sm, fun b u e => ?_, ex.hh, fun b _ h1 h2 => ?_, fun _ z => z.elim⟩ ⟨a, vs, rfl, upd_same, Paired.mapP p fun _ _ q => i.mono sm q⟩
    · by_cases hb : b = a
      · subst hb; rw [upd_same] at e; rw [← e]; exact h'
      · rw [upd_ne hb] at e; exact ex.fh _ _ e
    · rw [upd_ne (fun z => by subst z; exact h2 ha)]; exact ex.nw b h1 h2
theorem ex_of_ev {x : α} {P : Ret → Prop} (h : EV X Γ e x) (hp : P (.val i x)) : EX X Γ e P := fun B F H σ Q L q =>
  h B F H σ Q L fun v F' H' ex r => q (.val i x) v F' H' hp ex r
theorem ex_of_en {xs : List α} {P : Ret → Prop} (h : EN X Γ e xs) (hp : P (.new i xs)) : EX X Γ e P := fun B F H σ Q L q =>
  h B F H σ Q L fun a vs F' H' ex ha fa h' p => q (.new i xs) (.ref a) F' H' hp ex ⟨a, vs, rfl, ha, fa, h', p⟩
theorem ev_eq {x y : α} (h : EV X Γ e x) (q : x = y) : EV X Γ e y := q ▸ h
theorem en_eq {x y : List α} (h : EN X Γ e x) (q : x = y) : EN X Γ e y := q ▸ h
theorem et_eq {x y : Bool} (h : ET X Γ e x) (q : x = y) : ET X Γ e y := q ▸ h
theorem et_val {k : Bool} (h : EV X Γ e k) (he : autoParam (∀ whole, isTrue e X.env whole = (do let v ← whole; standAt e.pos; holding [v] (truthy v))) Tw.aIR1) : ET X Γ e k := fun B F H σ Q L q =>
  WT.of (pt_val peW he) (h B F H σ _ L fun v F' H' ex r => ⟨k, r, q F' H' ex⟩)
theorem ev_var (k : Nat) {n : Str} {x : α} (hN : autoParam (X.N[k]? = some n) aRfl) (hv : autoParam (Vis X.env.scope n) aVis) (hd : autoParam ((n == ("__debug__" : Str)) = false) aDec)
    (hcd : autoParam ((n == ("__classdict__" : Str)) = false) aDec) (hg : autoParam (Γ[k]? = some (.val i x)) aRfl) : EV X Γ (.Name n pos) x := fun B F H σ Q L q => by
  obtain ⟨v, e1, r⟩ := slot_val L hg
  exact WE.of (pe_var hN hv hd hcd) ⟨v, e1, q v F H (Ext.refl L.same) r⟩
theorem ev_int {z : Int} {k} : EV X Γ (.Constant (.int z) k pos) z := fun B F H σ Q L q => WE.of pe_int (q _ F H (Ext.refl L.same) rfl)
theorem ev_bl {z : Bool} {k} : EV X Γ (.Constant (.bool z) k pos) z := fun B F H σ Q L q => WE.of pe_bl (q _ F H (Ext.refl L.same) rfl)
theorem ev_str (s : String) {k} : EV X Γ (.Constant (.str (Str.ofString s)) k pos) (tx s) := fun B F H σ Q L q => WE.of pe_str (q _ F H (Ext.refl L.same) (congrArg V.str (sx_tx s)))
theorem ev_gint {n : Str} {z : Int} {t : Tok} (hm : X.mg n = some (.int z t)) (hg : autoParam (Gl X n) aRfl) (hd : autoParam ((n == ("__debug__" : Str)) = false) aDec) : EV X Γ (.Name n pos) z := fun B F H σ Q L q =>
  WE.of (pe_glob (v := .int z) hg hm ⟨t, rfl⟩ hd) (q _ F H (Ext.refl L.same) rfl)
noncomputable def rW (X : Cx) (f : Value → Value → Sem Value) : R2 := fun x y H Q => ∀ pins s σ v u, Inv X pins σ H s → RelV x v → RelV y u → wpAny (model X.prog X.w) X.A (f v u) (EP X pins σ Q) X.xe s
theorem opW {f : Value → Value → Sem Value} : OpR X f (rW X f) := fun pins s σ H x y v u Q I r1 r2 h => h pins s σ v u I r1 r2
noncomputable def OB (X : Cx) (f : Value → Value → Sem Value) {α β γ : Type} [i : Rep α] [j : Rep β] [l : Rep γ] (x : α) (y : β) (z : γ) : Prop :=
  ∀ F H v u Q, Same F H → i.rp X.K F v x → j.rp X.K F u y → (∀ w F' H', Ext F H F' H' → l.rp X.K F' w z → Q w H') → rW X f v u H Q
theorem ob_flat {f : Value → Value → Sem Value} {x : α} {y : β} {z : γ} {r : R2} (o : OpR X f r)
    (h : ∀ F H v u Q, Same F H → i.rp X.K F v x → j.rp X.K F u y → (∀ w, l.rp X.K F w z → Q w H) → r v u H Q) : OB X f x y z :=
  fun F H v u Q s r1 r2 q pins s' σ v' u' I rv ru => o pins s' σ H v u v' u' Q I rv ru (h F H v u Q s r1 r2 fun w hw => q w F H (Ext.refl s) hw)
theorem ev_bin {op : Operator} {x : α} {y : β} {z : γ} (o : OB X (binaryOp op) x y z) (ha : EV X Γ a x) (hb : EV X Γ b y) : EV X Γ (.BinOp a op b pos) z := fun B F H σ Q L q =>
  WE.of (pe_op opW peW peW) (ha B F H σ _ L fun v F1 H1 e1 r1 => hb B F1 H1 σ _ (L.step e1) fun u F2 H2 e2 r2 =>
    o F2 H2 v u Q (L.step (e1.trans e2)).same (i.mono e2.ff r1) r2 fun w F3 H3 e3 r3 => q w F3 H3 ((e1.trans e2).trans e3) r3)
theorem ev_cmp {op : CmpOp} {x : α} {y : β} {z : Bool} (o : OB X (compareOp op) x y z) (ha : EV X Γ a x) (hb : EV X Γ b y) (hm : behindInMarks op b = false := by first | exact nomark _ | rfl) : EV X Γ (.Compare a [op] [b] pos) z := fun B F H σ Q L q =>
  WE.of (pe_cmpR opW peW peW hm) (ha B F H σ _ L fun v F1 H1 e1 r1 => hb B F1 H1 σ _ (L.step e1) fun u F2 H2 e2 r2 =>
    o F2 H2 v u Q (L.step (e1.trans e2)).same (i.mono e2.ff r1) r2 fun w F3 H3 e3 r3 => q w F3 H3 ((e1.trans e2).trans e3) r3)
theorem et_cmp {op : CmpOp} {x : α} {y : β} {z : Bool} (o : OB X (compareOp op) x y z) (ha : EV X Γ a x) (hb : EV X Γ b y) (hm : behindInMarks op b = false := by first | exact nomark _ | rfl) : ET X Γ (.Compare a [op] [b] pos) z := fun B F H σ Q L q =>
  WT.of (pt_cmpR opW peW peW hm) (ha B F H σ _ L fun v F1 H1 e1 r1 => hb B F1 H1 σ _ (L.step e1) fun u F2 H2 e2 r2 =>
    o F2 H2 v u _ (L.step (e1.trans e2)).same (i.mono e2.ff r1) r2 fun w F3 H3 e3 r3 => ⟨z, r3, q F3 H3 ((e1.trans e2).trans e3)⟩)
theorem ob_I {f : Value → Value → Sem Value} {C : Int → Int → Prop} {g : Int → Int → Int} {x y : Int} (o : OpR X f (rI C fun i j => .int (g i j))) (h : C x y) : OB X f x y (g x y) :=
  ob_flat o fun F H v u Q s r1 r2 q => ⟨x, y, r1, r2, h, q _ rfl⟩
theorem ob_I0 {f : Value → Value → Sem Value} {g : Int → Int → Int} {x y : Int} (o : OpR X f (rI0 fun i j => .int (g i j))) : OB X f x y (g x y) :=
  ob_flat o fun F H v u Q s r1 r2 q => ⟨x, y, r1, r2, q _ rfl⟩
theorem ob_B0 {f : Value → Value → Sem Value} {g : Int → Int → Bool} {x y : Int} (o : OpR X f (rI0 fun i j => .bl (g i j))) : OB X f x y (g x y) :=
  ob_flat o fun F H v u Q s r1 r2 q => ⟨x, y, r1, r2, q _ rfl⟩
theorem o_add {x y : Int} : OB X (binaryOp .Add) x y (x + y) := ob_I0 op_add
theorem o_sub {x y : Int} : OB X (binaryOp .Sub) x y (x - y) := ob_I0 op_sub
theorem o_mul {x y : Int} (h : CMul x y) : OB X (binaryOp .Mult) x y (x * y) := ob_I op_mul h
theorem o_mod {x y : Int} (h : 0 < y) : OB X (binaryOp .Mod) x y (x % y) := ob_I op_mod h
theorem o_div {x y : Int} (h : CDivW x y) : OB X (binaryOp .FloorDiv) x y (x / y) := ob_I op_fdivW h
theorem o_gt {x y : Int} : OB X (compareOp .Gt) x y (decide (y < x)) := ob_B0 op_gt
theorem o_ge {x y : Int} : OB X (compareOp .GtE) x y (decide (y ≤ x)) := ob_B0 op_ge
theorem o_eq {x y : Int} : OB X (compareOp .Eq) x y (decide (x = y)) := ob_flat op_eq fun F H v u Q s r1 r2 q => by
  obtain rfl : v = .int x := r1
  obtain rfl : u = .int y := r2
  exact ⟨rfl, q _ (show V.bl _ = V.bl _ by rw [dec_int, Bool.beq_eq_decide_eq])⟩
theorem o_ne {x y : Int} : OB X (compareOp .NotEq) x y (!decide (x = y)) := ob_flat op_ne fun F H v u Q s r1 r2 q => by
  obtain rfl : v = .int x := r1
  obtain rfl : u = .int y := r2
  exact ⟨rfl, q _ (show V.bl _ = V.bl _ by rw [dec_int, Bool.beq_eq_decide_eq])⟩
theorem o_addS {x y : Tx} (h : x.length + y.length ≤ sizeLine) : OB X (binaryOp .Add) x y (x ++ y) := ob_flat op_add_str fun F H v u Q s r1 r2 q => by
  obtain rfl : v = .str (sx x) := r1
  obtain rfl : u = .str (sx y) := r2
  exact ⟨_, _, rfl, rfl, by rw [sx_len, sx_len]; exact h, q _ (by rw [sx_app]; rfl)⟩
theorem ev_neg {x : Int} (h : EV X Γ a x) : EV X Γ (.UnaryOp .USub a pos) (-x) := fun B F H σ Q L q =>
  WE.of (pe_un un_neg peW) (h B F H σ _ L fun v F1 H1 e1 r1 => ⟨x, r1, q _ F1 H1 e1 rfl⟩)
theorem et_not {k : Bool} (h : ET X Γ a k) : ET X Γ (.UnaryOp .Not a pos) (!k) := fun B F H σ Q L q =>
  WT.of (pt_not ptW) (h B F H σ _ L fun F1 H1 e1 => q F1 H1 e1)
structure WW (X : Cx) (e : Expr) (σ : L2.St) (H : Hp) (Q : Bool → Hp → Prop) : Prop where
  go : ∀ whole pins s, Inv X pins σ H s → wpAny (model X.prog X.w) X.A (isTrue e X.env whole) (TP X pins σ Q) X.xe s
theorem pwW : PW X e (WW X e) := ⟨fun whole pins s _ _ _ I h => h.go whole pins s I⟩
noncomputable def EW (X : Cx) (Γ : List Slot) (e : Expr) (k : Bool) : Prop := ∀ B F H σ Q, Lc X.K B F H σ Γ → (∀ F' H', Ext F H F' H' → Q k H') → WW X e σ H Q
theorem WW.of {t : TT} {σ : L2.St} {H : Hp} {Q : Bool → Hp → Prop} (p : PW X e t) (h : t σ H Q) : WW X e σ H Q := ⟨fun whole pins s I => p.run whole pins s σ H Q I h⟩
theorem et_w {k : Bool} (h : EW X Γ e k) : ET X Γ e k := fun B F H σ Q L q => WT.of (PW.pt pwW) (h B F H σ Q L q)
theorem ew_or1 {k : Bool} (h : ET X Γ a k) : EW X Γ (.BoolOp .Or [a] pos) k := fun B F H σ Q L q => WW.of (pw_or1 ptW) (h B F H σ Q L q)
theorem ew_or {k m : Bool} (ha : ET X Γ a k) (hb : k = false → EW X Γ (.BoolOp .Or (b :: es) pos) m) : EW X Γ (.BoolOp .Or (a :: b :: es) pos) (k || m) := fun B F H σ Q L q =>
  WW.of (pw_or ptW pwW) (ha B F H σ _ L fun F1 H1 e1 => by
    cases k with
    | false => exact hb rfl B F1 H1 σ Q (L.step e1) fun F2 H2 e2 => by rw [Bool.false_or] at q; exact q F2 H2 (e1.trans e2)
    | true => exact q F1 H1 e1)
theorem et_or {k m : Bool} (ha : ET X Γ a k) (hb : k = false → ET X Γ b m) : ET X Γ (.BoolOp .Or [a, b] pos) (k || m) := et_w (ew_or ha fun h => ew_or1 (hb h))
theorem ev_one {op} {x : α} (h : EV X Γ a x) : EV X Γ (.BoolOp op [a] pos) x := fun B F H σ Q L q => WE.of (pe_one peW) (h B F H σ Q L q)
theorem ev_and {k m : Bool} (ha : EV X Γ a k) (hb : k = true → EV X Γ (.BoolOp .And (b :: es) pos) m) : EV X Γ (.BoolOp .And (a :: b :: es) pos) (k && m) := fun B F H σ Q L q =>
  WE.of (pe_and peW peW) (ha B F H σ _ L fun v F1 H1 e1 r1 => ⟨k, r1, by
    cases k with
    | true => exact hb rfl B F1 H1 σ Q (L.step e1) fun v F2 H2 e2 r2 => by rw [Bool.true_and] at q; exact q v F2 H2 (e1.trans e2) r2
    | false => exact q _ F1 H1 e1 rfl⟩)
theorem ev_and2 {k m : Bool} (ha : EV X Γ a k) (hb : k = true → EV X Γ b m) : EV X Γ (.BoolOp .And [a, b] pos) (k && m) := ev_and ha fun h => ev_one (hb h)
theorem ea_nil : EA X Γ [] [] := fun B F H σ Q L q => WA.of pa_nil (q [] F H (Ext.refl L.same) trivial)
theorem ea_cons {x : α} {A : List Slot} (h : EV X Γ e x) (hr : EA X Γ es A) (hs : autoParam (starEach (e :: es) X.env = (false, eval e X.env) :: starEach es X.env) aStar) : EA X Γ (e :: es) (.val i x :: A) := fun B F H σ Q L q =>
  WA.of (pa_cons peW paW hs) (h B F H σ _ L fun v F1 H1 e1 r1 => hr B F1 H1 σ _ (L.step e1) fun vs F2 H2 e2 r2 => q (v :: vs) F2 H2 (e1.trans e2) ⟨i.mono e2.ff r1, r2⟩)
noncomputable def EAs (X : Cx) (Γ : List Slot) (es : List Expr) {α : Type} [i : Rep α] (xs : List α) : Prop :=
  ∀ B F H σ Q, Lc X.K B F H σ Γ → (∀ vs F' H', Ext F H F' H' → Paired (fun u x => i.rp X.K F' u x) vs xs → Q vs H') → WA X es σ H Q
theorem es_nil : EAs X Γ [] ([] : List α) := fun B F H σ Q L q => WA.of pa_nil (q [] F H (Ext.refl L.same) .nil)
theorem es_cons {x : α} {xs : List α} (h : EV X Γ e x) (hr : EAs X Γ es xs) (hs : autoParam (starEach (e :: es) X.env = (false, eval e X.env) :: starEach es X.env) aStar) : EAs X Γ (e :: es) (x :: xs) := fun B F H σ Q L q =>
  WA.of (pa_cons peW paW hs) (h B F H σ _ L fun v F1 H1 e1 r1 => hr B F1 H1 σ _ (L.step e1) fun vs F2 H2 e2 r2 => q (v :: vs) F2 H2 (e1.trans e2) (.cons (i.mono e2.ff r1) r2))
theorem en_lst {xs : List α} (h : EAs X Γ es xs) (hz : xs.length ≤ sizeLine := by exact sl_small (by simp)) : EN X Γ (.List es pos) xs := fun B F H σ Q L q =>
  WE.of (pe_lst paW) (h B F H σ _ L fun vs F1 H1 e1 r1 => ⟨by rw [Paired.length r1]; exact hz, fun p hp => by
    have s1 := (L.step e1).same
    have ea := Ext.apart (o := .lst vs) s1 hp
    exact q p vs F1 _ (e1.trans ea) (e1.hs.free hp) (s1.free hp) upd_same r1⟩)
theorem ev_tupH {x1} {xs : List α} (h : EAs X Γ es xs) (hz : xs.length ≤ sizeLine := by exact sl_small (by simp)) : EV X Γ (.Tuple es x1 pos) (Tup.mk xs) := fun B F H σ Q L q =>
  WE.of (pe_tup paW) (h B F H σ _ L fun vs F1 H1 e1 r1 => ⟨by rw [Paired.length r1]; exact hz, fun p hp => by
    have s1 := (L.step e1).same
    have ea := Ext.new (o := .tup vs) s1 hp
    exact q (.ref p) _ _ (e1.trans ea) ⟨p, vs, rfl, upd_same, Paired.mapP r1 fun _ _ z => i.mono ea.ff z⟩⟩)
theorem ev_pair {x1} {x : α} {y : β} (ha : EV X Γ a x) (hb : EV X Γ b y) (hs : autoParam (starEach [a, b] X.env = (false, eval a X.env) :: starEach [b] X.env) aStar) (hs2 : autoParam (starEach [b] X.env = (false, eval b X.env) :: starEach [] X.env) aStar) : EV X Γ (.Tuple [a, b] x1 pos) (x, y) := fun B F H σ Q L q =>
  WE.of (pe_tup paW) (ea_cons ha (ea_cons hb ea_nil hs2) hs B F H σ _ L fun vs F1 H1 e1 r1 => by
    match vs, r1 with
    | [v, u], ⟨h1, h2, _⟩ =>
      exact ⟨by show 2 ≤ sizeLine; decide, fun p hp => by
        have s1 := (L.step e1).same
        have ea := Ext.new (o := .tup [v, u]) s1 hp
        exact q (.ref p) _ _ (e1.trans ea) ⟨p, v, u, rfl, upd_same, i.mono ea.ff h1, j.mono ea.ff h2⟩⟩)
theorem sq_of {K : PySem.W.Frag} {F H : Hp} (s : Same F H) {a : Addr} {vs : List V} (h : F a = some (.lst vs)) : SqL K H a vs := .inl (.inl (s _ _ h))
theorem st_of {K : PySem.W.Frag} {F H : Hp} (s : Same F H) {a : Addr} {vs : List V} (h : F a = some (.tup vs)) : SqT K H a vs := .inl (.inl (s _ _ h))
theorem ev_callB1 {n : Str} {id : String} {x : α} {z : β} {r : List V → Hp → VK → Prop} (hc : CallR X (.builtin id) r) (hm : X.mg n = none) (hv : bootBuiltins n = some (.builtin id)) (h : EV X Γ e x)
    (hr : ∀ F H v Q, Same F H → i.rp X.K F v x → (∀ w F' H', Ext F H F' H' → j.rp X.K F' w z → Q w H') → r [v] H Q) (hg : autoParam (Gl X n) aRfl) (hn : autoParam (n ≠ "__name__") aDec) (hd : autoParam ((n == ("__debug__" : Str)) = false) aDec)
    (hs : autoParam (starEach [e] X.env = (false, eval e X.env) :: starEach [] X.env) aStar) (hpl : autoParam ((backTo pos (starEach [] X.env)).any (·.1) = false) aPl) : EV X Γ (.Call (.Name n p) [e] [] pos) z := fun B F H σ Q L q =>
  WE.of (pe_callB hc hg hm hv (pa_cons peW pa_nil hs) hn hd hs hpl) (h B F H σ _ L fun v F1 H1 e1 r1 => hr F1 H1 v Q (L.step e1).same r1 fun w F2 H2 e2 r2 => q w F2 H2 (e1.trans e2) r2)
theorem ev_len {xs : List α} (hm : X.mg "len" = none) (h : EV X Γ e xs) (hg : autoParam (Gl X "len") aRfl) (hs : autoParam (starEach [e] X.env = (false, eval e X.env) :: starEach [] X.env) aStar) (hpl : autoParam ((backTo pos (starEach [] X.env)).any (·.1) = false) aPl) :
    EV X Γ (.Call (.Name "len" p) [e] [] pos) (xs.length : Int) :=
  ev_callB1 call_len_seq hm PySem.boot_len h (fun F H v Q s r q => by
    obtain ⟨a, vs, rfl, ha, pr⟩ := r
    exact ⟨a, vs, rfl, .inl (sq_of s ha), q _ F H (Ext.refl s) (by rw [Paired.length pr]; rfl)⟩) hg (by decide) (by decide) hs hpl
theorem ev_lenT {xs : Tup α} (hm : X.mg "len" = none) (h : EV X Γ e xs) (hg : autoParam (Gl X "len") aRfl) (hs : autoParam (starEach [e] X.env = (false, eval e X.env) :: starEach [] X.env) aStar) (hpl : autoParam ((backTo pos (starEach [] X.env)).any (·.1) = false) aPl) :
    EV X Γ (.Call (.Name "len" p) [e] [] pos) (xs.l.length : Int) :=
  ev_callB1 call_len_seq hm PySem.boot_len h (fun F H v Q s r q => by
    obtain ⟨a, vs, rfl, ha, pr⟩ := r
    exact ⟨a, vs, rfl, .inr (st_of s ha), q _ F H (Ext.refl s) (by rw [Paired.length pr]; rfl)⟩) hg (by decide) (by decide) hs hpl
theorem ev_lenScr {xs : Scr} (hm : X.mg "len" = none) (h : EV X Γ e xs) (hg : autoParam (Gl X "len") aRfl) (hs : autoParam (starEach [e] X.env = (false, eval e X.env) :: starEach [] X.env) aStar) (hpl : autoParam ((backTo pos (starEach [] X.env)).any (·.1) = false) aPl) :
    EV X Γ (.Call (.Name "len" p) [e] [] pos) (xs.l.length : Int) :=
  ev_callB1 call_len_seq hm PySem.boot_len h (fun F H v Q s r q => by
    obtain ⟨a, rfl, ha⟩ := r
    exact ⟨a, _, rfl, .inl (s.seq ha), q _ F H (Ext.refl s) (by rw [List.length_map]; rfl)⟩) hg (by decide) (by decide) hs hpl
theorem ev_lenS {x : Tx} (hm : X.mg "len" = none) (h : EV X Γ e x) (hz : x.length ≤ sizeLine) (hg : autoParam (Gl X "len") aRfl) (hs : autoParam (starEach [e] X.env = (false, eval e X.env) :: starEach [] X.env) aStar) (hpl : autoParam ((backTo pos (starEach [] X.env)).any (·.1) = false) aPl) :
    EV X Γ (.Call (.Name "len" p) [e] [] pos) (x.length : Int) :=
  ev_callB1 call_len_str hm PySem.boot_len h (fun F H v Q s r q => ⟨sx x, by rw [show v = V.str (sx x) from r], by rw [sx_len]; exact hz, q _ F H (Ext.refl s) (by rw [sx_len]; rfl)⟩) hg (by decide) (by decide) hs hpl
theorem ev_ixL {xs : List α} {n : Int} {x : α} (ha : EV X Γ a xs) (hb : EV X Γ b n) (hx : atI xs n = some x) (hp : autoParam (PlainIx b) Tw.aIR2) : EV X Γ (.Subscript a b pos) x := fun B F H σ Q L q =>
  WE.of (pe_ix ix_list peW peW hp) (ha B F H σ _ L fun v F1 H1 e1 r1 => hb B F1 H1 σ _ (L.step e1) fun u F2 H2 e2 r2 => by
    obtain ⟨ad, vs, rfl, h1, pr⟩ := r1
    obtain ⟨k, hk, hx⟩ := Option.bind_eq_some_iff.mp hx
    obtain ⟨w, hw, rw'⟩ := pgetL pr hx
    have s2 := (L.step (e1.trans e2)).same
    exact ⟨ad, vs, n, w, rfl, r2, sq_of s2 (e2.ff _ _ h1), by unfold atI; rw [Paired.length pr, hk]; exact hw, q w F2 H2 (e1.trans e2) (i.mono e2.ff rw')⟩)
theorem ev_ixT {xs : Tup α} {n : Int} {x : α} (ha : EV X Γ a xs) (hb : EV X Γ b n) (hx : atI xs.l n = some x) (hp : autoParam (PlainIx b) Tw.aIR2) : EV X Γ (.Subscript a b pos) x := fun B F H σ Q L q =>
  WE.of (pe_ix ix_tup peW peW hp) (ha B F H σ _ L fun v F1 H1 e1 r1 => hb B F1 H1 σ _ (L.step e1) fun u F2 H2 e2 r2 => by
    obtain ⟨ad, vs, rfl, h1, pr⟩ := r1
    obtain ⟨k, hk, hx⟩ := Option.bind_eq_some_iff.mp hx
    obtain ⟨w, hw, rw'⟩ := pgetL pr hx
    have s2 := (L.step (e1.trans e2)).same
    exact ⟨ad, vs, n, w, rfl, r2, st_of s2 (e2.ff _ _ h1), by unfold atI; rw [Paired.length pr, hk]; exact hw, q w F2 H2 (e1.trans e2) (i.mono e2.ff rw')⟩)
theorem ev_ixScr {xs : Scr} {n : Int} {x : Int} (ha : EV X Γ a xs) (hb : EV X Γ b n) (hx : atI xs.l n = some x) (hp : autoParam (PlainIx b) Tw.aIR2) : EV X Γ (.Subscript a b pos) x := fun B F H σ Q L q =>
  WE.of (pe_ix ix_list peW peW hp) (ha B F H σ _ L fun v F1 H1 e1 r1 => hb B F1 H1 σ _ (L.step e1) fun u F2 H2 e2 r2 => by
    obtain ⟨ad, rfl, h1⟩ := r1
    obtain ⟨k, hk, hx⟩ := Option.bind_eq_some_iff.mp hx
    have s2 := (L.step (e1.trans e2)).same
    exact ⟨ad, _, n, .int x, rfl, r2, s2.seq (e2.ff.seq h1), by unfold atI; rw [List.length_map, hk]; show (xs.l.map V.int)[k]? = _; rw [List.getElem?_map, hx]; rfl, q _ F2 H2 (e1.trans e2) rfl⟩)
theorem ev_ixS {x : Tx} {n : Int} {z : Nat} (ha : EV X Γ a x) (hb : EV X Γ b n) (hx : atI x n = some z) (hz : x.length ≤ sizeLine) (hp : autoParam (PlainIx b) Tw.aIR2) : EV X Γ (.Subscript a b pos) ([z] : Tx) := fun B F H σ Q L q =>
  WE.of (pe_ix ix_str peW peW hp) (ha B F H σ _ L fun v F1 H1 e1 r1 => hb B F1 H1 σ _ (L.step e1) fun u F2 H2 e2 r2 =>
    ⟨sx x, n, z, r1, r2, by rw [sx_len]; exact hz, hx, q _ F2 H2 (e1.trans e2) rfl⟩)
noncomputable def EO (X : Cx) (Γ : List Slot) (e : Option Expr) (o : Option Int) : Prop := match e, o with
  | none, none => True
  | some e, some n => EV X Γ e n
  | _, _ => False
noncomputable def WO (X : Cx) (e : Option Expr) (Γ : List Slot) : TO := match e with
  | none => tNoPart
  | some e => tPart (WE X e)
theorem poW {e : Option Expr} : PO X e (WO X e Γ) := by
  cases e with
  | none => exact po_none
  | some e => exact po_some peW
theorem eo_run {e : Option Expr} {o : Option Int} (h : EO X Γ e o) {B : Bs} {F H : Hp} {σ : L2.St} {Q : Option Int → Hp → Prop} (L : Lc X.K B F H σ Γ) (q : ∀ F' H', Ext F H F' H' → Q o H') : WO X e Γ σ H Q := by
  cases e with
  | none =>
    cases o with
    | none => exact q F H (Ext.refl L.same)
    | some n => exact h.elim
  | some e =>
    cases o with
    | none => exact h.elim
    | some n => exact h B F H σ _ L fun v F1 H1 e1 r1 => ⟨n, r1, q F1 H1 e1⟩
noncomputable def cutL {A : Type} (xs : List A) (lo hi : Option Int) : List A := (xs.drop (HT.sIx xs.length 0 lo)).take (HT.sIx xs.length xs.length hi - HT.sIx xs.length 0 lo)
theorem en_sliceL {p2 : Pos} {lo hi : Option Expr} {o1 o2 : Option Int} {xs : List α} (ha : EV X Γ a xs) (hl : EO X Γ lo o1) (hh : EO X Γ hi o2) : EN X Γ (.Subscript a (.Slice lo hi none p2) pos) (cutL xs o1 o2) := fun B F H σ Q L q =>
  WE.of (pe_slice sl_list peW (poW (Γ := Γ)) (poW (Γ := Γ))) (ha B F H σ _ L fun v F1 H1 e1 r1 => eo_run hl (L.step e1) fun F2 H2 e2 => eo_run hh (L.step (e1.trans e2)) fun F3 H3 e3 => by
    obtain ⟨ad, vs, rfl, h1, pr⟩ := r1
    have e123 := (e1.trans e2).trans e3
    have s3 := (L.step e123).same
    have e23 := e2.trans e3
    refine ⟨ad, vs, rfl, sq_of s3 (e23.ff _ _ h1), fun p hp => ?_⟩
    refine q p _ F3 _ (e123.trans (Ext.apart s3 hp)) (e123.hs.free hp) (s3.free hp) upd_same ?_
    unfold cutV cutL
    rw [Paired.length pr]
    exact ptake _ (pdrop _ (Paired.mapP pr fun _ _ z => i.mono e23.ff z)))
theorem ev_sliceS {p2 : Pos} {lo hi : Option Expr} {o1 o2 : Option Int} {x : Tx} (ha : EV X Γ a x) (hl : EO X Γ lo o1) (hh : EO X Γ hi o2) (hz : x.length ≤ sizeLine) : EV X Γ (.Subscript a (.Slice lo hi none p2) pos) (cutL x o1 o2) := fun B F H σ Q L q =>
  WE.of (pe_slice sl_str peW (poW (Γ := Γ)) (poW (Γ := Γ))) (ha B F H σ _ L fun v F1 H1 e1 r1 => eo_run hl (L.step e1) fun F2 H2 e2 => eo_run hh (L.step (e1.trans e2)) fun F3 H3 e3 =>
    ⟨sx x, r1, by rw [sx_len]; exact hz, q _ F3 H3 ((e1.trans e2).trans e3) (congrArg V.str (by
      unfold cutS cutL
      rw [sx_len]
      rfl))⟩)
end
end Tw
namespace Tw
open PySem PySem.Spec PyProof.Rows L2 TL
section
variable {X : Cx} {Γ : List Slot} {α β γ : Type} {i : Rep α} {j : Rep β} {l : Rep γ} {pos p : Pos} {e a b c : Expr} {es : List Expr} {E : SE} {rest body : List Stmt}
theorem ED.seq {B : Bs} {F0 : Hp} {D : Ends} (ed : ED X B F0 E D) : ED X B F0 { E with nx := fun Γ' => ST X rest Γ' E } { D with nx := fun σ' H' => WP X rest D σ' H' } :=
  ⟨fun F H σ Γ s h L => h B F H σ D L (ed.weak s), ed.rt, ed.bk, ed.ct, ed.ex⟩
theorem st_nil (h : E.nx Γ) : ST X [] Γ E := fun B F H σ D L ed => WP.of pss_nil (ed.nx F H σ Γ (Same.refl F) h L)
theorem st_set (k : Nat) {n : Str} {x : α} (he : EV X Γ e x) (hr : ST X rest (Γ.set k (.val i x)) E) (hN : X.N.Nodup) (hi : autoParam (X.N[k]? = some n) aRfl) (hx : autoParam (L2.Loc X.env.scope n) aLoc)
    (hs : autoParam (swapsWith e (some (.Name n p)) pos.line X.env = pure false) aRfl) (hf : autoParam (X.fn n = true ∨ X.env.scope.names.lookup n = some .local) Tw.aFn) : ST X (.Assign [.Name n p] e pos :: rest) Γ E := fun B F H σ D L ed =>
  WP.cons (ps_set hN hi hx peW hs hf) (he B F H σ _ L fun v F1 H1 e1 r1 => hr B F1 H1 _ D ((L.step e1).putV k r1) (ed.weak e1.ff))
theorem st_setN (k : Nat) {n : Str} {xs : List α} (he : EN X Γ e xs) (hr : ∀ ad, ST X rest (Γ.set k (.lst i ad xs)) E) (hN : X.N.Nodup) (hi : autoParam (X.N[k]? = some n) aRfl) (hx : autoParam (L2.Loc X.env.scope n) aLoc)
    (hs : autoParam (swapsWith e (some (.Name n p)) pos.line X.env = pure false) aRfl) (hf : autoParam (X.fn n = true ∨ X.env.scope.names.lookup n = some .local) Tw.aFn) : ST X (.Assign [.Name n p] e pos :: rest) Γ E := fun B F H σ D L ed =>
  WP.cons (ps_set hN hi hx peW hs hf) (he B F H σ _ L fun ad vs F1 H1 e1 ha fa h1 pr => hr ad B F1 H1 _ D (L.putL k e1 ha fa h1 pr) (ed.weak e1.ff))
theorem st_ret {P : Ret → Prop} (he : EX X Γ e P) (hP : ∀ r, P r → E.rt r) : ST X (.Return (some e) pos :: rest) Γ E := fun B F H σ D L ed =>
  WP.cons (ps_ret peW) (he B F H σ _ L fun r v F1 H1 hr e1 ok => ed.rt r v F1 H1 (hP r hr) (L.step e1).ext (ok.imp fun b h => L.nw h))
theorem st_retV {x : α} (he : EV X Γ e x) (hP : E.rt (.val i x)) : ST X (.Return (some e) pos :: rest) Γ E := st_ret (P := fun r => r = .val i x) (ex_of_ev he rfl) fun r h => h ▸ hP
theorem st_retE {xs : List α} (he : EN X Γ e xs) (hP : E.rt (.new i xs)) : ST X (.Return (some e) pos :: rest) Γ E := st_ret (P := fun r => r = .new i xs) (ex_of_en he rfl) fun r h => h ▸ hP
theorem st_retL (k : Nat) {n : Str} {ad : Addr} {xs : List α} (hP : E.rt (.new i xs)) (hN : autoParam (X.N[k]? = some n) aRfl) (hv : autoParam (Vis X.env.scope n) aVis) (hd : autoParam ((n == ("__debug__" : Str)) = false) aDec)
    (hcd : autoParam ((n == ("__classdict__" : Str)) = false) aDec) (hg : autoParam (Γ[k]? = some (.lst i ad xs)) aRfl) : ST X (.Return (some (.Name n p)) pos :: rest) Γ E := fun B F H σ D L ed => by
  obtain ⟨vs, ea, fa, ba, ha, pr⟩ := slot_lst L hg
  exact WP.cons (ps_ret (pe_var hN hv hd hcd)) ⟨_, ea, ed.rt _ _ F H hP L.ext ⟨ad, vs, rfl, ba, fa, ha, pr⟩⟩
theorem st_if {k : Bool} {A C : List Stmt} (hc : ET X Γ c k) (hA : k = true → ST X A Γ { E with nx := fun Γ' => ST X rest Γ' E }) (hC : k = false → ST X C Γ { E with nx := fun Γ' => ST X rest Γ' E }) : ST X (.If c A C pos :: rest) Γ E := fun B F H σ D L ed =>
  WP.cons (ps_if ptW psW psW) (hc B F H σ _ L fun F1 H1 e1 => by
    cases k with
    | true => exact hA rfl B F1 H1 σ _ (L.step e1) ((ed.weak e1.ff).seq)
    | false => exact hC rfl B F1 H1 σ _ (L.step e1) ((ed.weak e1.ff).seq))
theorem st_append (k : Nat) {n : Str} {ad : Addr} {xs : List α} {x : α} {apos cpos : Pos} (he : EV X Γ e x) (hr : ST X rest (Γ.set k (.lst i ad (xs ++ [x]))) E) (hz : xs.length < sizeLine) (hg : autoParam (Γ[k]? = some (.lst i ad xs)) aRfl) (hN : autoParam (X.N[k]? = some n) aRfl)
    (hv : autoParam (Vis X.env.scope n) aVis) (hd : autoParam ((n == ("__debug__" : Str)) = false) aDec) (hcd : autoParam ((n == ("__classdict__" : Str)) = false) aDec)
    (hbase : autoParam (attributeBase (.Name n p) "append" X.env (eval (.Name n p) X.env) = eval (.Name n p) X.env) aRfl)
    (hfew : autoParam (((backTo cpos (starEach [e] X.env)).all (fun x => !x.1) && (backToKw cpos (keywordEach [] X.env)).all (fun x => x.1.isSome) && decide ([e].length + ([] : List Keyword).length + (if ([] : List Keyword).isEmpty then 0 else 1) < 30)) = true) aRfl)
    (hline : autoParam ((apos.endLine == cpos.line) = true) aRfl) (hs : autoParam (starEach [e] X.env = (false, eval e X.env) :: starEach [] X.env) aStar) (hplain : autoParam ((backTo cpos (starEach [] X.env)).any (·.1) = false) aRfl)
    (hsw : autoParam (swapsWith (.Call (.Attribute (.Name n p) "append" apos) [e] [] cpos) none pos.line X.env = pure false) aRfl) :
    ST X (.Expr (.Call (.Attribute (.Name n p) "append" apos) [e] [] cpos) pos :: rest) Γ E := fun B F H σ D L ed => by
  obtain ⟨vs, ea, fa, ba, ha, pr⟩ := slot_lst L hg
  refine WP.cons (ps_expr (pe_bm PySem.F.plainAttrs_list PySem.F.slot_list_append PySem.F.type_list_append mt_append (pe_var hN hv hd hcd) (pa_cons peW pa_nil hs) hbase hfew hline hs hplain) hsw) ?_
  refine ⟨_, ea, .inl ⟨rfl, _, .inl (.inl ha)⟩, he B F H σ _ L fun v F1 H1 e1 r1 => ?_⟩
  have L1 := L.step e1
  obtain ⟨vs1, _, _, _, ha1, pr1⟩ := slot_lst L1 hg
  refine ⟨ad, vs1, v, rfl, rfl, ha1, by rw [Paired.length pr1]; exact hz, ?_⟩
  exact hr B F1 _ σ D (L1.updL hg (papp pr1 (.cons r1 .nil))) (ed.weak e1.ff)
noncomputable def Yields (K : PySem.W.Frag) (J : It) (F1 : Hp) {α : Type} [i : Rep α] (xs : List α) : Prop :=
  ∀ F2 H2, Same F1 F2 → Same F2 H2 → (∀ (k : Nat) x, xs[k]? = some x → J.go k H2 ∧ ∀ v H3, J.yld k H2 v H3 → ∃ F3, Ext F2 H2 F3 H3 ∧ i.rp K F3 v x) ∧ J.stop xs.length H2
noncomputable def Src (X : Cx) (Γ : List Slot) (tg it : Expr) {α : Type} [i : Rep α] (xs : List α) : Prop :=
  ∃ wi, PI X tg it wi ∧ ∀ B F H σ R, Lc X.K B F H σ Γ → (∀ J F1 H1, Ext F H F1 H1 → Yields X.K J F1 xs → R J H1) → wi σ H R
variable {tg it : Expr}
theorem src_list {xs : List α} (h : EV X Γ it xs) : Src X Γ tg it xs := ⟨_, pi_list peW, fun B F H σ R L q => h B F H σ _ L fun v F1 H1 e1 r1 => by
  obtain ⟨ad, vs, rfl, ha, pr⟩ := r1
  refine ⟨ad, rfl, ⟨vs, sq_of (L.step e1).same ha⟩, q _ F1 H1 e1 fun F2 H2 s1 s2 => ⟨fun k x hx => ?_, vs, sq_of s2 (s1 _ _ ha), by rw [Paired.length pr]; exact Nat.le_refl _⟩⟩
  obtain ⟨w, hw, rw'⟩ := pgetL pr hx
  refine ⟨⟨vs, w, sq_of s2 (s1 _ _ ha), hw⟩, fun v H3 hy => ?_⟩
  obtain ⟨rfl, hy⟩ := hy
  have : v = w := Option.some.inj ((hy vs (sq_of s2 (s1 _ _ ha))).symm.trans hw)
  subst this
  exact ⟨F2, Ext.refl s2, i.mono s1 rw'⟩⟩
theorem src_rev {xs : List α} {p2 : Pos} (hm : X.mg "reversed" = none) (h : EV X Γ it xs) (hg : autoParam (Gl X "reversed") aRfl) (hs : autoParam (starEach [it] X.env = [(false, eval it X.env)]) aStar) : Src X Γ tg (.Call (.Name "reversed" p) [it] [] p2) xs.reverse := ⟨_, pi_reversed hg hm (pa_cons peW pa_nil hs) hs, fun B F H σ R L q => h B F H σ _ L fun v F1 H1 e1 r1 => by
  obtain ⟨ad, vs, rfl, ha, pr⟩ := r1
  refine ⟨ad, vs, rfl, sq_of (L.step e1).same ha, q _ F1 H1 e1 fun F2 H2 s1 s2 => ⟨fun k x hx => ?_, by show vs.length ≤ _; rw [Paired.length pr, List.length_reverse]; exact Nat.le_refl _⟩⟩
  have hk : k < xs.length := by have := (List.getElem?_eq_some_iff.mp hx).1; simpa using this
  rw [List.getElem?_reverse hk] at hx
  obtain ⟨w, hw, rw'⟩ := pgetL pr hx
  rw [← Paired.length pr] at hw hk
  refine ⟨⟨hk, vs, w, sq_of s2 (s1 _ _ ha), hw⟩, fun v H3 hy => ?_⟩
  obtain ⟨rfl, hy⟩ := hy
  have : v = w := Option.some.inj ((hy vs (sq_of s2 (s1 _ _ ha))).symm.trans hw)
  subst this
  exact ⟨F2, Ext.refl s2, i.mono s1 rw'⟩⟩
noncomputable def rng (lo : Int) (n : Nat) : List Int := (List.range n).map fun (k : Nat) => lo + (k : Int)
theorem rng_get {lo : Int} {n k : Nat} {x : Int} (h : (rng lo n)[k]? = some x) : k < n ∧ x = lo + k := by
  unfold rng at h
  rw [List.getElem?_map] at h
  by_cases hk : k < n
  · rw [List.getElem?_range hk] at h
    exact ⟨hk, (Option.some.inj h).symm⟩
  · rw [List.getElem?_eq_none (by simpa using hk)] at h; cases h
theorem rng_len {lo : Int} {n : Nat} : (rng lo n).length = n := by unfold rng; simp
theorem yields_rng {K : PySem.W.Frag} {F1 : Hp} {lo : Int} {n : Nat} : Yields K (Itr lo n) F1 (rng lo n) := fun F2 H2 s1 s2 => ⟨fun k x hx => by
  obtain ⟨hk, rfl⟩ := rng_get hx
  exact ⟨hk, fun v H3 hy => by obtain ⟨rfl, rfl⟩ := hy; exact ⟨F2, Ext.refl s2, rfl⟩⟩, by show n ≤ _; rw [rng_len]; exact Nat.le_refl _⟩
theorem src_range {n : Int} {p2 : Pos} (hm : X.mg "range" = none) (h : EV X Γ it n) (h1 : -(2 ^ 62) ≤ n) (h2 : n < 2 ^ 62) (hg : autoParam (Gl X "range") aRfl) (hs : autoParam (starEach [it] X.env = [(false, eval it X.env)]) aStar) : Src X Γ tg (.Call (.Name "range" p) [it] [] p2) (rng 0 n.toNat) :=
  ⟨_, pi_range1 hg hm (pa_cons peW pa_nil hs) hs, fun B F H σ R L q => h B F H σ _ L fun v F1 H1 e1 r1 => by
    obtain rfl : v = .int n := r1
    exact ⟨n, rfl, h1, h2, q _ F1 H1 e1 yields_rng⟩⟩
theorem src_range2 {m n : Int} {p2 : Pos} (hm : X.mg "range" = none) (ha : EV X Γ a m) (hb : EV X Γ b n) (h : -(2 ^ 62) ≤ m ∧ m < 2 ^ 62 ∧ -(2 ^ 62) ≤ n ∧ n < 2 ^ 62) (hg : autoParam (Gl X "range") aRfl)
    (hs : autoParam (starEach [a, b] X.env = [(false, eval a X.env), (false, eval b X.env)]) aStar) (hs2 : autoParam (starEach [b] X.env = [(false, eval b X.env)]) aStar) : Src X Γ tg (.Call (.Name "range" p) [a, b] [] p2) (rng m (n - m).toNat) :=
  ⟨_, pi_range2 hg hm (pa_cons peW (pa_cons peW pa_nil hs2) (by rw [hs, hs2])) hs hs2, fun B F H σ R L q => ha B F H σ _ L fun v F1 H1 e1 r1 => hb B F1 H1 σ _ (L.step e1) fun u F2 H2 e2 r2 => by
    obtain rfl : v = .int m := r1
    obtain rfl : u = .int n := r2
    exact ⟨m, n, rfl, h, q _ F2 H2 (e1.trans e2) yields_rng⟩⟩
theorem wipe_get {σ : L2.St} {k : Nat} : ∀ vs : List Nat, (wipe σ vs)[k]? = if k ∈ vs then (σ[k]?).map (fun _ => none) else σ[k]?
  | [] => by simp [wipe]
  | v :: vs => by
    unfold wipe
    by_cases h : v = k
    · subst h
      rw [if_pos (List.mem_cons_self ..), List.getElem?_set]
      rw [if_pos rfl]
      by_cases hl : v < σ.length
      · rw [if_pos (by rw [wipe_length]; exact hl), List.getElem?_eq_getElem hl]; rfl
      · rw [if_neg (by rw [wipe_length]; exact hl), List.getElem?_eq_none (by omega)]; rfl
    · rw [List.getElem?_set_ne h, wipe_get vs]
      have : (k ∈ v :: vs) ↔ k ∈ vs := by simp [Ne.symm h]
      simp only [this]
theorem wipe_wipe (σ : L2.St) (vs : List Nat) : wipe (wipe σ vs) vs = wipe σ vs := by
  refine List.ext_getElem? fun k => ?_
  rw [wipe_get, wipe_get]
  split
  · cases σ[k]? <;> rfl
  · rfl
noncomputable def wipeS (Γ : List Slot) : List Nat → List Slot
  | [] => Γ
  | v :: vs => (wipeS Γ vs).set v .no
theorem Lc.wipe {K : PySem.W.Frag} {B : Bs} {F H : Hp} {σ : L2.St} {Γ : List Slot} (L : Lc K B F H σ Γ) : ∀ vs : List Nat, Lc K B F H (L2.wipe σ vs) (wipeS Γ vs)
  | [] => L
  | v :: vs => (L.wipe vs).putN v none
structure Tg (K : PySem.W.Frag) (g : TG) {α : Type} [i : Rep α] (bind : α → List Slot → List Slot) (vs : List Nat) : Prop where
  run : ∀ B F H σ Γ v x Q, Lc K B F H σ Γ → i.rp K F v x → (∀ σ2, Lc K B F H σ2 (bind x Γ) → wipe σ2 vs = wipe σ vs → Q σ2 H) → g v σ H Q
theorem tg_name {K : PySem.W.Frag} (k : Nat) : Tg K (gName k) (fun (x : α) Γ => Γ.set k (.val i x)) [k] := ⟨fun B F H σ Γ v x Q L r q => q _ (L.putV k r) (by show (σ.set k (some v)).set k none = σ.set k none; rw [List.set_set])⟩
theorem tg_pair {K : PySem.W.Frag} (k m : Nat) (hkm : k ≠ m) : Tg K (gTup K 2 (gCons (gName k) (gCons (gName m) gNil))) (fun (x : α × β) Γ => (Γ.set k (.val i x.1)).set m (.val j x.2)) [k, m] := ⟨fun B F H σ Γ v x Q L r q => by
  obtain ⟨ad, u, w, rfl, ha, r1, r2⟩ := r
  refine ⟨ad, [u, w], rfl, st_of L.same ha, rfl, u, [w], rfl, w, [], rfl, rfl, q _ ((L.putV k r1).putV m r2) ?_⟩
  show ((((σ.set k (some u)).set m (some w)).set m none).set k none) = (σ.set m none).set k none
  rw [List.set_set, List.set_comm _ _ hkm, List.set_set]⟩
theorem st_for {xs : List α} {bind : α → List Slot → List Slot} {vs : List Nat} {g : TG} (P : Nat → List Slot → Prop) (hS : Src X Γ tg it xs) (hT : Tg X.K g bind vs) (h0 : P 0 Γ)
    (hb : ∀ (k : Nat) x Γ', xs[k]? = some x → P k Γ' → ST X body (bind x Γ') { nx := P (k + 1), ct := P (k + 1), bk := fun Γ2 => ST X rest Γ2 E, rt := E.rt, ex := E.ex })
    (hd : ∀ Γ', P xs.length Γ' → ST X rest Γ' E) (hg : PG X tg g) (hp : autoParam (PassesOwn (model X.prog X.w) X.A X.env X.xe) Tw.aPass) (hc : autoParam (X.calm = true) aRfl) (hs : autoParam (∀ x, foldedSetIterable it X.env x = pure x) Tw.aIR1) :
    ST X (.For tg it body [] pos :: rest) Γ E := fun B F H σ D L ed => by
  obtain ⟨wi, hi, run⟩ := hS
  refine WP.cons (ps_for hp hc hi hg psW hs) (run B F H σ _ L fun J F1 H1 e1 Y => ?_)
  have L1 := L.step e1
  refine ⟨fun t m σ H => m = xs.length - t ∧ t ≤ xs.length ∧ ∃ F2 Γ', P t Γ' ∧ Same F1 F2 ∧ Lc X.K B F2 H σ Γ', ⟨xs.length, rfl, Nat.zero_le _, F1, Γ, h0, Same.refl _, L1⟩, ?_⟩
  rintro t m σ H ⟨rfl, ht, F2, Γ', hP, s12, L2⟩
  have Y2 := Y F2 H s12 L2.same
  by_cases hlt : t < xs.length
  · have hx : xs[t]? = some xs[t] := List.getElem?_eq_getElem hlt
    obtain ⟨go, yl⟩ := Y2.1 t _ hx
    refine .inr ⟨go, fun σ' H' => ∃ F3 Γ3, P (t + 1) Γ3 ∧ Same F1 F3 ∧ Lc X.K B F3 H' σ' Γ3, fun σ' H' h => ⟨xs.length - (t + 1), by omega, rfl, hlt, h⟩, fun v H3 hy => ?_⟩
    obtain ⟨F3, e3, r3⟩ := yl v H3 hy
    refine hT.run B F3 H3 σ Γ' v _ _ (L2.step e3) r3 fun σ2 L4 _ => ?_
    refine hb t _ Γ' hx hP B F3 H3 σ2 _ L4 ⟨fun F5 H5 σ5 Γ5 s5 h5 L5 => ?_, ed.rt, fun F5 H5 σ5 Γ5 s5 h5 L5 => h5 B F5 H5 σ5 D L5 (ed.weak (e1.ff.trans (s12.trans (e3.ff.trans s5)))), fun F5 H5 σ5 Γ5 s5 h5 L5 => ?_, fun F5 H5 σ5 Γ5 x u d s5 h5 L5 => ed.ex F5 H5 σ5 Γ5 x u d (e1.ff.trans (s12.trans (e3.ff.trans s5))) h5 L5⟩
    · exact ⟨F5, Γ5, h5, s12.trans (e3.ff.trans s5), L5⟩
    · exact ⟨F5, Γ5, h5, s12.trans (e3.ff.trans s5), L5⟩
  · have et : t = xs.length := by omega
    subst et
    exact .inl ⟨Y2.2, hd Γ' hP B F2 H σ D L2 (ed.weak (e1.ff.trans s12))⟩
end
end Tw
namespace Tw
open PySem PySem.Spec PyProof.Rows L2 TL
section
variable {X : Cx} {Γ : List Slot} {α β γ : Type} {i : Rep α} {j : Rep β} {l : Rep γ} {pos p : Pos} {e a b c elt tg it : Expr} {es : List Expr} {E : SE} {rest body : List Stmt}
noncomputable abbrev Blk (X : Cx) (scope : Scope) (s : Shared) (H : Hp) (C : Addr) (cl : List (Str × Addr)) (fp : List Addr) : Cx := X.blk s H scope (compEnvC scope cl C X.env) fp
noncomputable def tBlkE (X : Cx) (scope : Scope) (e : Expr) : TE := fun σ H Q => ∀ s H0 C cl fp, WE (Blk X scope s H0 C cl fp) e σ H Q
theorem lc_run {scope : Scope} {xs : List α} {f : α → β} {q : α → Bool} {bind : α → List Slot → List Slot} {vs : List Nat} {g : TG} {tt : TT} {wi : TI} {B : Bs} {F H : Hp} {σ : L2.St} {Q : VK} (L : Lc X.K B F H σ Γ)
    (run : ∀ R, (∀ J F1 H1, Ext F H F1 H1 → Yields X.K J F1 xs → R J H1) → wi σ H R) (hT : Tg X.K g bind vs)
    (ht : ∀ x ∈ xs, ∀ B F H σ R, Lc X.K B F H σ (bind x (wipeS Γ vs)) → (∀ F' H', Ext F H F' H' → R (q x) H') → tt σ H R)
    (he : ∀ x ∈ xs, q x = true → ∀ s H C cl fp, EV (Blk X scope s H C cl fp) (bind x (wipeS Γ vs)) elt (f x)) (hz : xs.length ≤ sizeLine)
    (k : ∀ a vs F' H', Ext F H F' H' → H a = none → F' a = none → H' a = some (.lst vs) → Paired (fun u x => j.rp X.K F' u x) vs ((xs.filter q).map f) → Q (.ref a) H') : tLc wi g tt (tBlkE X scope elt) vs σ H Q := by
  refine run _ fun J F1 H1 e1 Y D hD => ?_
  have L1 := L.step e1
  refine ⟨fun t m H' => m = xs.length - t ∧ t ≤ xs.length ∧ ∃ F2 acc, Ext F1 H1 F2 H' ∧ F2 D = none ∧ H' D = some (.lst acc) ∧ acc.length ≤ t ∧ Paired (fun u x => j.rp X.K F2 u x) acc (((xs.take t).filter q).map f),
    ⟨xs.length, rfl, Nat.zero_le _, F1, [], Ext.apart L1.same hD, L1.same.free hD, upd_same, Nat.le_refl _, .nil⟩, ?_⟩
  rintro t m H2 ⟨rfl, ht', F2, acc, e2, fD, hD2, hl, pr⟩
  have Y2 := Y F2 H2 e2.ff e2.fh
  by_cases hlt : t < xs.length
  · have hx : xs[t]? = some xs[t] := List.getElem?_eq_getElem hlt
    have hmem : xs[t] ∈ xs := List.getElem_mem hlt
    obtain ⟨go, yl⟩ := Y2.1 t _ hx
    refine .inr ⟨go, fun H' => ∃ F3 acc, Ext F1 H1 F3 H' ∧ F3 D = none ∧ H' D = some (.lst acc) ∧ acc.length ≤ t + 1 ∧ Paired (fun u x => j.rp X.K F3 u x) acc (((xs.take (t + 1)).filter q).map f), fun H' h => ⟨xs.length - (t + 1), by omega, rfl, hlt, h⟩, fun v H3 hy => ?_⟩
    obtain ⟨F3, e3, r3⟩ := yl v H3 hy
    have L3 := ((L1.step e2).wipe vs).step e3
    refine hT.run B F3 H3 _ _ v _ _ L3 r3 fun σ2 L4 hw => ⟨by rw [hw, wipe_wipe], ?_⟩
    refine ht _ hmem B F3 H3 σ2 _ L4 fun F4 H4 e4 => ?_
    have e34 := e3.trans e4
    have fD4 : F4 D = none := e34.nw D fD (by rw [hD2]; exact fun z => nomatch z)
    have etake : xs.take (t + 1) = xs.take t ++ [xs[t]] := by rw [List.take_add_one, hx]; rfl
    by_cases hq : q xs[t] = true
    · rw [if_pos hq]
      intro s H0 C cl fp
      refine he _ hmem hq s H0 C cl fp B F4 H4 σ2 _ (L4.step e4) fun w F5 H5 e5 r5 => ?_
      have e345 := e34.trans e5
      have hD5 : H5 D = some (.lst acc) := e345.hs _ _ hD2
      have fD5 : F5 D = none := e345.nw D fD (by rw [hD2]; exact fun z => nomatch z)
      have e25 := e2.trans e345
      refine ⟨acc, hD5, by omega, F5, acc ++ [w], ⟨e25.ff, same_upd e25.fh fD5, fun b o nb ob => ?_, e25.nwM, fun _ z => z.elim⟩, fD5, upd_same, by simp; exact hl, ?_⟩
      · rw [upd_ne (ne_of_none ob hD)]; exact e25.hh b o nb ob
      · rw [etake, List.filter_append, List.map_append]
        have : ([xs[t]].filter q).map f = [f xs[t]] := by rw [List.filter_cons_of_pos hq]; rfl
        rw [this]
        exact papp (Paired.mapP pr fun _ _ z => j.mono e345.ff z) (.cons r5 .nil)
    · rw [if_neg hq]
      refine ⟨F4, acc, e2.trans e34, fD4, e34.hs _ _ hD2, by omega, ?_⟩
      rw [etake, List.filter_append, List.map_append]
      have : ([xs[t]].filter q).map f = [] := by rw [List.filter_cons_of_neg hq]; rfl
      rw [this, List.append_nil]
      exact Paired.mapP pr fun _ _ z => j.mono e34.ff z
  · have et : t = xs.length := by omega
    subst et
    refine .inl ⟨Y2.2, k D acc F2 H2 (e1.trans e2) (e1.hs.free hD) fD hD2 ?_⟩
    rw [List.take_length] at pr
    exact pr
theorem filter_yes {A : Type} (xs : List A) : xs.filter (fun _ => true) = xs := List.filter_eq_self.mpr fun _ _ => rfl
theorem en_lc {scope : Scope} {own : List (Str × Nat)} {xs : List α} {f : α → β} {bind : α → List Slot → List Slot} {g : TG} (hS : Src X Γ tg it xs) (hT : Tg X.K g bind (own.map (·.2))) (hg : ∀ s H C cl fp, PG (Blk X scope s H C cl fp) tg g)
    (he : ∀ x ∈ xs, ∀ s H C cl fp, EV (Blk X scope s H C cl fp) (bind x (wipeS Γ (own.map (·.2)))) elt (f x)) (hN : X.N.Nodup) (ok : BlkOk X.N X.env.scope scope own := by exact blkOk_by (by decide +kernel)) (hz : xs.length ≤ sizeLine)
    (hc : autoParam (X.calm = true) aRfl) (hs : autoParam (∀ x, foldedSetIterable it X.env x = pure x) Tw.aIR1) : EN X Γ (.ListComp elt [⟨tg, it, [], 0⟩] scope pos) (xs.map f) := fun B F H σ Q L k => by
  obtain ⟨wi, hi, run⟩ := hS
  refine WE.of (pe_lc (te := tBlkE X scope elt) hc hN hi ok hg (fun _ _ _ _ _ => pts_nil) (fun s H C cl fp => ⟨fun pins s' σ H' Q' I h => (h s H C cl fp).go pins s' I⟩) hs) ?_
  refine lc_run (q := fun _ => true) L (fun R => run B F H σ R L) hT (fun x _ B F H σ R L h => h F H (Ext.refl L.same)) (fun x hx _ => he x hx) hz fun a vs F' H' e1 ha fa h' pr => k a vs F' H' e1 ha fa h' ?_
  rw [filter_yes] at pr
  exact pr
theorem st_setLc (m : Nat) {y : Str} {py spos : Pos} {scope : Scope} {own : List (Str × Nat)} {xs : List α} {f : α → β} {bind : α → List Slot → List Slot} {g : TG} (hS : Src X Γ tg it xs) (hT : Tg X.K g bind (own.map (·.2))) (hg : ∀ s H C cl fp, PG (Blk X scope s H C cl fp) tg g)
    (he : ∀ x ∈ xs, ∀ s H C cl fp, EV (Blk X scope s H C cl fp) (bind x (wipeS Γ (own.map (·.2)))) elt (f x)) (hN : X.N.Nodup) (hz : xs.length ≤ sizeLine) (hr : ∀ ad, ST X rest (Γ.set m (.lst j ad (xs.map f))) E)
    (ok : BlkOk X.N X.env.scope scope own := by exact blkOk_by (by decide +kernel)) (hy : autoParam (X.N[m]? = some y) aRfl) (hyl : autoParam (X.env.scope.names.lookup y = some .local) aRfl)
    (hsw : swapsWith (.ListComp elt [⟨tg, it, [], 0⟩] scope pos) (some (.Name y py)) spos.line X.env = pure true := by exact sw_true rfl rfl rfl (by decide +kernel))
    (hc : autoParam (X.calm = true) aRfl) (hs : autoParam (∀ x, foldedSetIterable it X.env x = pure x) Tw.aIR1) : ST X (.Assign [.Name y py] (.ListComp elt [⟨tg, it, [], 0⟩] scope pos) spos :: rest) Γ E := fun B F H σ D L ed => by
  obtain ⟨wi, hi, run⟩ := hS
  refine WP.cons (ps_setLc (te := tBlkE X scope elt) hc hN hy hyl hsw hi ok hg (fun _ _ _ _ _ => pts_nil) (fun s H C cl fp => ⟨fun pins s' σ H' Q' I h => (h s H C cl fp).go pins s' I⟩) hs) ?_
  refine lc_run (q := fun _ => true) L (fun R => run B F H σ R L) hT (fun x _ B F H σ R L h => h F H (Ext.refl L.same)) (fun x hx _ => he x hx) hz fun a vs F' H' e1 ha fa h' pr => ?_
  rw [filter_yes] at pr
  exact hr a B F' H' _ D (L.putL m e1 ha fa h' pr) (ed.weak e1.ff)
theorem ev_join {o : Expr} {sep : Tx} {xs : List Tx} {apos : Pos} (ho : EV X Γ o sep) (h : EV X Γ e xs) (hz : (xs.map (·.length)).sum + xs.length * sep.length ≤ 16777216) (hs : autoParam (starEach [e] X.env = [(false, eval e X.env)]) aStar)
    (hbase : autoParam (attributeBase o "join" X.env (eval o X.env) = eval o X.env) aRfl) (hline : autoParam ((apos.endLine == pos.line) = true) aRfl) : EV X Γ (.Call (.Attribute o "join" apos) [e] [] pos) (joinL sep xs) := fun B F H σ Q L q =>
  WE.of (pe_join peW peW hs hbase hline) (ho B F H σ _ L fun v F1 H1 e1 r1 => ⟨⟨_, r1⟩, h B F1 H1 σ _ (L.step e1) fun u F2 H2 e2 r2 => by
    obtain ⟨ad, vs, rfl, ha, pr⟩ := r2
    have s2 := (L.step (e1.trans e2)).same
    refine ⟨sx sep, ad, xs.map sx, r1, rfl, .inl (by rw [← Rps.strs pr]; exact sq_of s2 ha), ?_, q _ F2 H2 (e1.trans e2) (congrArg V.str ?_)⟩
    · rw [List.map_map, List.length_map, sx_len]
      have : ((fun y : Str => y.length) ∘ sx) = (fun x : Tx => x.length) := funext fun x => sx_len x
      rw [this]; exact hz
    · rw [join_eq]
      refine ext_tl ?_
      rw [tl_join, List.map_map]
      have : (tl ∘ sx) = (id : Tx → Tx) := funext fun x => tl_sx x
      rw [this, List.map_id]
      rfl⟩)
theorem joinL_one {x : Tx} : joinL [] (x.map fun c => ([c] : Tx)) = x := by
  have : ∀ (y : List Tx), joinL [] y = y.flatten := by
    intro y
    induction y with
    | nil => rfl
    | cons a r ih =>
      cases r with
      | nil => simp [joinL]
      | cons b r => rw [joinL, ih]; simp
  rw [this]
  induction x with
  | nil => rfl
  | cons a r ih => rw [List.map_cons, List.flatten_cons, ih]; rfl
theorem ev_joinRev {o : Expr} {x : Tx} {apos pos2 : Pos} (hm : X.mg "reversed" = none) (ho : EV X Γ o ([] : Tx)) (h : EV X Γ e x) (hz : x.length ≤ 16777216) (hg : autoParam (Gl X "reversed") aRfl) (hc : autoParam (X.calm = true) aRfl)
    (hs1 : autoParam (starEach [.Call (.Name "reversed" p) [e] [] pos2] X.env = [(false, eval (.Call (.Name "reversed" p) [e] [] pos2) X.env)]) aStar) (hs : autoParam (starEach [e] X.env = (false, eval e X.env) :: starEach [] X.env) aStar)
    (hbase : autoParam (attributeBase o "join" X.env (eval o X.env) = eval o X.env) aRfl) (hline : autoParam ((apos.endLine == pos.line) = true) aRfl) : EV X Γ (.Call (.Attribute o "join" apos) [.Call (.Name "reversed" p) [e] [] pos2] [] pos) (x.reverse) := fun B F H σ Q L q =>
  WE.of (pe_joinRev hc peW hg hm peW hs1 hs hbase hline) (ho B F H σ _ L fun v F1 H1 e1 r1 => ⟨⟨_, r1⟩, h B F1 H1 σ _ (L.step e1) fun u F2 H2 e2 r2 => by
    refine ⟨sx [], sx x, r1, r2, ?_, ?_, q _ F2 H2 (e1.trans e2) (congrArg V.str ?_)⟩
    · rw [sx_len]; exact Nat.le_trans hz (by decide)
    · rw [sx_len, sx_len]; show x.length + x.length * 0 ≤ _; omega
    · rw [join_eq]
      refine ext_tl ?_
      rw [tl_join, List.map_map]
      show joinL [] (x.reverse.map (tl ∘ RevS.one)) = _
      have : (tl ∘ RevS.one) = fun c => ([c] : Tx) := rfl
      rw [this, joinL_one]
      rfl⟩)
theorem en_list {xs : List α} (hm : X.mg "list" = none) (h : EV X Γ e xs) (hg : autoParam (Gl X "list") aRfl) (hs : autoParam (starEach [e] X.env = (false, eval e X.env) :: starEach [] X.env) aStar) (hpl : autoParam ((backTo pos (starEach [] X.env)).any (·.1) = false) aPl) :
    EN X Γ (.Call (.Name "list" p) [e] [] pos) xs := fun B F H σ Q L q =>
  WE.of (pe_callTy call_list_of hg hm (by decide +kernel) (pa_cons peW pa_nil hs) (by decide) (by decide) hs hpl) (h B F H σ _ L fun v F1 H1 e1 r1 => by
    obtain ⟨ad, vs, rfl, ha, pr⟩ := r1
    have s1 := (L.step e1).same
    exact ⟨ad, vs, rfl, .inl (sq_of s1 ha), fun q' hq => q q' vs F1 _ (e1.trans (Ext.apart s1 hq)) (e1.hs.free hq) (s1.free hq) upd_same pr⟩)
class Flat (α : Type) [i : Rep α] : Prop where
  fl : ∀ {K F F' v} {x : α}, i.rp K F v x → i.rp K F' v x
noncomputable instance : Flat Int := ⟨fun h => h⟩
noncomputable instance : Flat Bool := ⟨fun h => h⟩
noncomputable instance : Flat Unit := ⟨fun h => h⟩
noncomputable instance : Flat (List Nat) := ⟨fun h => h⟩
noncomputable def frz (F H : Hp) (ps : List Addr) : Hp := fun b => if b ∈ ps then H b else F b
theorem frz_in {F H : Hp} {ps : List Addr} {b : Addr} (h : b ∈ ps) : frz F H ps b = H b := if_pos h
theorem frz_out {F H : Hp} {ps : List Addr} {b : Addr} (h : b ∉ ps) : frz F H ps b = F b := if_neg h
theorem frz_le {F H : Hp} {ps : List Addr} (f : ∀ b ∈ ps, F b = none) : Same F (frz F H ps) := fun b u e => by
  rw [frz_out (fun hb => by rw [f b hb] at e; cases e)]; exact e
theorem frz_same {F H : Hp} {ps : List Addr} (s : Same F H) : Same (frz F H ps) H := fun b u e => by
  by_cases hb : b ∈ ps
  · rw [frz_in hb] at e; exact e
  · rw [frz_out hb] at e; exact s _ _ e
noncomputable def Froz (o : Own) {α : Type} [i : Rep α] (x : α) : Prop := ∀ {K : PySem.W.Frag} {F H : Hp} {v : V}, Same F H → o.ok K F H v → (∀ b ∈ o.fp, F b = none) → i.rp K (frz F H o.fp) v x
theorem frozL {a : Addr} {xs : List α} : Froz (ownL i a xs) xs := fun {K F H v} s ⟨e, vs, h, p⟩ f => ⟨a, vs, e, (frz_in (ps := [a]) (List.mem_singleton.mpr rfl)).trans h, Paired.mapP p fun _ _ q => i.mono (frz_le f) q⟩
theorem Lc.lendO {K : PySem.W.Frag} {B : Bs} {F H : Hp} {σ : L2.St} {k : Nat} {o : Own} {x : α} (L : Lc K B F H σ Γ) (hk : Γ[k]? = some (.own o)) (hx : Froz o x) :
    Lc K ⟨frz F H o.fp, H, fun _ => True⟩ (frz F H o.fp) H σ (Γ.set k (.val i x)) ∧ ∀ b ∈ o.fp, F b = none := by
  obtain ⟨v, ev, ok, f⟩ := slot_own L hk
  have f0 : ∀ b ∈ o.fp, F b = none := fun b hb => (f b hb).1
  refine ⟨⟨⟨Same.refl _, frz_same L.same, fun _ _ n => absurd trivial n, fun _ _ h _ => h, fun _ _ h => h⟩, by simp [L.len], fun q t hq => ?_, L.ap.put k rfl⟩, f0⟩
  rcases get_set_slot hq with ⟨e1, e2, rfl⟩ | ⟨e1, hq'⟩
  · subst e1
    rw [ev]
    exact ⟨v, rfl, hx L.same ok f0⟩
  · have old := L.ok q t hq'
    cases t with
    | no => trivial
    | val i x => obtain ⟨v, e2, r⟩ := old; exact ⟨v, e2, i.mono (frz_le f0) r⟩
    | own o2 =>
      obtain ⟨u, eu, ok2, f2⟩ := old
      exact ⟨u, eu, o2.stay (frz_le f0) (fun _ _ _ h => h) ok2, fun b hb => ⟨by rw [frz_out (fun hb2 => L.ap k q o o2 e1 hk hq' b hb2 hb)]; exact (f2 b hb).1, .inr trivial⟩⟩
theorem lend_back {F H F' H' : Hp} {ps : List Addr} (s : Same F H) (e : Ext (frz F H ps) H F' H') : Ext F H F H' := ⟨Same.refl F, s.trans e.hs, e.hh, fun _ _ h _ => h, fun _ z => z.elim⟩
theorem ev_lendO (k : Nat) {o : Own} {x : α} {y : β} [Flat β] (hx : Froz o x) (h : EV X (Γ.set k (.val i x)) e y) (hk : autoParam (Γ[k]? = some (.own o)) aRfl) : EV X Γ e y := fun B F H σ Q L q => by
  obtain ⟨L', fa⟩ := L.lendO hk hx
  exact h _ _ H σ Q L' fun v F' H' ex r => q v F H' (lend_back L.same ex) (Flat.fl r)
theorem et_lendO (k : Nat) {o : Own} {x : α} {y : Bool} (hx : Froz o x) (h : ET X (Γ.set k (.val i x)) e y) (hk : autoParam (Γ[k]? = some (.own o)) aRfl) : ET X Γ e y := fun B F H σ Q L q => by
  obtain ⟨L', fa⟩ := L.lendO hk hx
  exact h _ _ H σ Q L' fun F' H' ex => q F H' (lend_back L.same ex)
theorem en_lendO (k : Nat) {o : Own} {x : α} {ys : List β} [Flat β] (hx : Froz o x) (h : EN X (Γ.set k (.val i x)) e ys) (hk : autoParam (Γ[k]? = some (.own o)) aRfl) : EN X Γ e ys := fun B F H σ Q L q => by
  obtain ⟨L', fa⟩ := L.lendO hk hx
  exact h _ _ H σ Q L' fun a vs F' H' ex ha f2 h' pr => q a vs F H' (lend_back L.same ex) ha (L.same.free ha) h' (Paired.mapP pr fun _ _ z => Flat.fl z)
theorem ev_lend (k : Nat) {ad : Addr} {xs : List α} {y : β} [Flat β] (h : EV X (Γ.set k (.val repList xs)) e y) (hk : autoParam (Γ[k]? = some (.lst i ad xs)) aRfl) : EV X Γ e y := ev_lendO k frozL h hk
theorem en_lend (k : Nat) {ad : Addr} {xs : List α} {ys : List β} [Flat β] (h : EN X (Γ.set k (.val repList xs)) e ys) (hk : autoParam (Γ[k]? = some (.lst i ad xs)) aRfl) : EN X Γ e ys := en_lendO k frozL h hk
theorem ex_call {n : Str} {k : Nat} {ps : List Str} {S : Spec} {A : List Slot} {P : Ret → Prop} (G : Has X.prog X.w X.K X.mg X.base k n ps S) (hr : Room k X.A) (ha : EA X Γ (e :: es) A)
    (hS : ∀ P' R', (∀ r, P r → P' r) → S A P' R') (hg : autoParam (Gl X n) aRfl) (hd : autoParam ((n == ("__debug__" : Str)) = false) aDec)
    (he : autoParam (starEach (e :: es) X.env = (false, eval e X.env) :: starEach es X.env) aStar) (hpl : autoParam ((backTo pos (starEach es X.env)).any (·.1) = false) aPl) : EX X Γ (.Call (.Name n p) (e :: es) [] pos) P := fun B F H σ Q L q => by
  obtain ⟨f, fd, hm, hk, hb, G⟩ := G.ex
  refine WE.of (pe_call G hr hg hm hk hb .nil passL paW hd he hpl) (ha B F H σ _ L fun vs F1 H1 e1 r1 => ?_)
  rw [List.append_nil]
  exact ⟨F1, A, (L.step e1).same, r1.toO, r1.apart, hS _ _ fun r hr v F2 H2 e2 ok => q r v F2 H2 hr (e1.thenM e2 fun _ m => (r1.ma m).elim) (ok.imp fun b h => e1.hs.free (h.elim id fun m => (r1.ma m).elim))⟩
theorem ev_call {n : Str} {k : Nat} {ps : List Str} {S : Spec} {A : List Slot} {x : α} (G : Has X.prog X.w X.K X.mg X.base k n ps S) (hr : Room k X.A) (ha : EA X Γ (e :: es) A) (hS : ∀ P R, P (.val i x) → S A P R) (hg : autoParam (Gl X n) aRfl) (hd : autoParam ((n == ("__debug__" : Str)) = false) aDec)
    (he : autoParam (starEach (e :: es) X.env = (false, eval e X.env) :: starEach es X.env) aStar) (hpl : autoParam ((backTo pos (starEach es X.env)).any (·.1) = false) aPl) : EV X Γ (.Call (.Name n p) (e :: es) [] pos) x :=
  ev_of_ex (ex_call G hr ha (fun P' R' h => hS P' R' (h _ rfl)) hg hd he hpl)
theorem en_call {n : Str} {k : Nat} {ps : List Str} {S : Spec} {A : List Slot} {xs : List α} (G : Has X.prog X.w X.K X.mg X.base k n ps S) (hr : Room k X.A) (ha : EA X Γ (e :: es) A) (hS : ∀ P R, P (.new i xs) → S A P R) (hg : autoParam (Gl X n) aRfl) (hd : autoParam ((n == ("__debug__" : Str)) = false) aDec)
    (he : autoParam (starEach (e :: es) X.env = (false, eval e X.env) :: starEach es X.env) aStar) (hpl : autoParam ((backTo pos (starEach es X.env)).any (·.1) = false) aPl) : EN X Γ (.Call (.Name n p) (e :: es) [] pos) xs :=
  en_of_ex (ex_call G hr ha (fun P' R' h => hS P' R' (h _ rfl)) hg hd he hpl)
end
section
variable {P : Program} {w : World} {K : PySem.W.Frag} {mg : Str → Option Value} {base : Heap}
structure Df (K : PySem.W.Frag) (mg : Str → Option Value) (n : Str) (st : Stmt) (ps : List Str) : Prop where
  ex : ∃ f fd, Fun K n n st f fd ∧ Binds K fd ps [] ∧ mg n = some (.ref f)
theorem lc_start {F H : Hp} (s : Same F H) : ∀ {vs : List V} {A : List Slot} (r : VsOkO K F H vs A) (ap : Apart A) (n : Nat), Lc K ⟨F, H, MA A⟩ F H (vs.map some ++ List.replicate n none) (A ++ List.replicate n .no) := by
  intro vs A r ap n
  have key : ∀ {vs : List V} {A A0 : List Slot}, VsOkO K F H vs A → (∀ s ∈ A, s ∈ A0) → ∀ (k : Nat) t, (A ++ List.replicate n Slot.no)[k]? = some t → SlotOk K ⟨F, H, MA A0⟩ F H ((vs.map some ++ List.replicate n none)[k]?).join t := by
    intro vs A
    induction A generalizing vs with
    | nil =>
      intro A0 r _ k t h
      rw [List.nil_append, List.getElem?_replicate] at h
      split at h
      · cases h; exact trivial
      · cases h
    | cons a A ih =>
      intro A0 r hm k t h
      cases vs with
      | nil => cases a <;> exact r.elim
      | cons v vs =>
        cases a with
        | no => exact r.elim
        | own o =>
          cases k with
          | zero =>
            simp at h
            subst h
            exact ⟨v, rfl, r.1, fun b hb => ⟨r.2.1 b hb, .inr ⟨o, hm _ (List.mem_cons_self ..), hb⟩⟩⟩
          | succ k => exact ih r.2.2 (fun s hs => hm s (List.mem_cons_of_mem _ hs)) k t (by simpa using h)
        | val i x =>
          cases k with
          | zero =>
            simp at h
            subst h
            exact ⟨v, rfl, r.1⟩
          | succ k => exact ih r.2 (fun s hs => hm s (List.mem_cons_of_mem _ hs)) k t (by simpa using h)
  have inA : ∀ {k : Nat} {o : Own}, (A ++ List.replicate n Slot.no)[k]? = some (.own o) → A[k]? = some (.own o) := fun {k o} h => by
    by_cases hk : k < A.length
    · rw [List.getElem?_append_left hk] at h; exact h
    · rw [List.getElem?_append_right (by omega), List.getElem?_replicate] at h
      split at h <;> cases h
  exact ⟨⟨Same.refl _, s, fun _ _ _ h => h, fun _ _ h _ => h, fun _ _ h => h⟩, by simp [r.len], fun k t h => key r (fun _ h => h) k t h, fun x y o1 o2 hxy h1 h2 => ap x y o1 o2 hxy (inA h1) (inA h2)⟩
theorem Has.of {n : Str} {st : Stmt} {N ps : List Str} {k : Nat} {S : Spec} (D : Df K mg n st ps) (sc : FnScope N ps (defScope st)) (len : ∀ A Q R, S A Q R → A.length = ps.length)
    (body : ∀ (f : Addr) (cdv : Value) (A : Around) (outer : List Env) (s : Shared) (H : Hp) (E : XK), Room k (A.deeper (envOfC n (defScope st) s.heap.objs.size f cdv)) → ∀ Γ Q R, S Γ Q R →
      ST (cxOf (L2.CX P w) P w K mg base N n (defScope st) f cdv A outer s H E).nox (defBody st) (Γ ++ List.replicate (N.length - ps.length) .no) (fin Q)) :
    Has P w K mg base (k + 1) n ps S := by
  obtain ⟨f, fd, F, hb, hm⟩ := D.ex
  refine ⟨f, fd, hm, F.kp, hb, F.okX sc (fun vs H Q E ⟨F0, A, s, r, ap, h⟩ => ?_) (fun cdv A outer s H vs Q E hr h => ?_)⟩
  · rw [r.len]; exact len _ _ _ h
  · obtain ⟨F0, A0, sm, r, ap, h⟩ := h
    refine ⟨_, psW.nox, ?_⟩
    have hl := len _ _ _ h
    have L0 := lc_start (K := K) sm r ap (N.length - ps.length)
    have L1 : Lc K ⟨F0, H, MA A0⟩ F0 H (L2.start N vs) (A0 ++ List.replicate (N.length - ps.length) .no) := by
      unfold L2.start
      rw [show vs.length = ps.length from r.len.trans hl]
      exact L0
    refine body f cdv A outer s H E hr A0 _ _ h ⟨F0, H, MA A0⟩ F0 H _ _ L1 ⟨fun F' H' σ' Γ' _ hq L => ?_, fun r v F' H' hq ex ok => hq v F' H' ex ok, fun _ _ _ _ _ z => z.elim, fun _ _ _ _ _ z => z.elim, fun _ _ _ _ _ _ _ _ z => z.elim⟩
    exact hq .non F' H' L.ext rfl
end
end Tw
namespace Tw
open PySem PySem.Spec PyProof.Rows L2 TL
class Dat (α : Type) [i : Rep α] [DecidableEq α] where
  en : α → PyData
  ok : α → Prop
  dep : Nat
  dp : ∀ {K F v x}, i.rp K F v x → Dp K F v (en x)
  lay : ∀ {x}, ok x → (en x).canLay0 = true
  deep : ∀ x, (en x).depth ≤ dep
  eqv : ∀ x y, PyData.eqv (en x) (en y) = decide (x = y)
noncomputable instance : Dat Int := ⟨.int, fun _ => True, 0, fun {_ _ v x} h => by obtain rfl : v = .int x := h; exact .int _, fun _ => by rw [PyData.canLay0], fun _ => by simp [PyData.depth], fun x y => by simp [PyData.eqv, Bool.beq_eq_decide_eq]⟩
noncomputable instance : Dat Bool := ⟨.bool, fun _ => True, 0, fun {_ _ v x} h => by obtain rfl : v = .bl x := h; exact .bl _, fun _ => by rw [PyData.canLay0], fun _ => by simp [PyData.depth], fun x y => by simp [PyData.eqv, Bool.beq_eq_decide_eq]⟩
noncomputable def TxOk (x : Tx) : Prop := ∀ c ∈ x, c < 1114112
noncomputable instance : Dat (List Nat) := ⟨fun x => .str (sx x), TxOk, 0, fun {_ _ v x} h => by obtain rfl : v = .str (sx x) := h; exact .str _, fun {x} h => by
    rw [PyData.canLay0]
    show (sx x).cps.all (· < 0x110000) = true
    rw [Array.all_eq_true']
    intro c hc
    exact decide_eq_true (h c (by simpa [sx] using hc)), fun _ => by simp [PyData.depth], fun x y => by
    rw [PyData.eqv, Bool.beq_eq_decide_eq]
    by_cases h : x = y
    · subst h; rw [decide_eq_true rfl, decide_eq_true rfl]
    · rw [decide_eq_false h, decide_eq_false fun z => h (sx_inj z)]⟩
section
variable {α β : Type} [i : Rep α] [DecidableEq α] [d : Dat α] [j : Rep β] [DecidableEq β] [f : Dat β]
theorem dpAll {K : PySem.W.Frag} {F : Hp} : ∀ {vs : List V} {xs : List α}, Paired (fun u x => i.rp K F u x) vs xs → DpAll K F vs (xs.map d.en)
  | _, _, .nil => .nil
  | _, _, .cons r t => .cons (d.dp r) (dpAll t)
theorem layAll : ∀ {xs : List α}, (∀ x ∈ xs, d.ok x) → PyData.canLayAll0 (xs.map d.en) = true
  | [], _ => by rw [List.map_nil, PyData.canLayAll0]
  | x :: xs, h => by
    rw [List.map_cons, PyData.canLayAll0, d.lay (h x (List.mem_cons_self ..)), layAll fun y hy => h y (List.mem_cons_of_mem _ hy)]
    rfl
theorem deepAll : ∀ xs : List α, PyData.depthAll (xs.map d.en) ≤ d.dep
  | [] => by rw [List.map_nil, PyData.depthAll]; exact Nat.zero_le _
  | x :: xs => by rw [List.map_cons, PyData.depthAll]; exact Nat.max_le.mpr ⟨d.deep x, deepAll xs⟩
theorem eqvAll : ∀ xs ys : List α, PyData.eqvAll (xs.map d.en) (ys.map d.en) = decide (xs = ys)
  | [], [] => by rw [List.map_nil, PyData.eqvAll]; rfl
  | x :: xs, [] => by rw [List.map_cons, List.map_nil, PyData.eqvAll]; rfl
  | [], y :: ys => by rw [List.map_cons, List.map_nil, PyData.eqvAll]; rfl
  | x :: xs, y :: ys => by
    rw [List.map_cons, List.map_cons, PyData.eqvAll, d.eqv, eqvAll xs ys, ← Bool.decide_and]
    exact decide_eq_decide.mpr (by simp)
noncomputable instance : Dat (List α) := ⟨fun xs => .list (xs.map d.en), fun xs => ∀ x ∈ xs, d.ok x, d.dep + 1, fun {K F v xs} ⟨a, vs, e, h, pr⟩ => by subst e; exact .lst (.inl (.inl h)) (dpAll pr), fun h => by rw [PyData.canLay0]; exact layAll h,
  fun xs => by rw [PyData.depth]; exact Nat.succ_le_succ (deepAll xs), fun xs ys => by rw [PyData.eqv]; exact eqvAll xs ys⟩
noncomputable instance : DecidableEq (Tup α) := fun x y => decidable_of_iff (x.l = y.l) (by cases x; cases y; simp)
noncomputable instance : Dat (Tup α) := ⟨fun xs => .tuple (xs.l.map d.en), fun xs => ∀ x ∈ xs.l, d.ok x, d.dep + 1, fun {K F v xs} ⟨a, vs, e, h, pr⟩ => by subst e; exact .tup (.inl (.inl h)) (dpAll pr), fun h => by rw [PyData.canLay0]; exact layAll h,
  fun xs => by rw [PyData.depth]; exact Nat.succ_le_succ (deepAll xs.l), fun xs ys => by
    rw [PyData.eqv, eqvAll]
    exact decide_eq_decide.mpr (by cases xs; cases ys; simp)⟩
noncomputable instance : Dat (α × β) := ⟨fun x => .tuple [d.en x.1, f.en x.2], fun x => d.ok x.1 ∧ f.ok x.2, max d.dep f.dep + 1, fun {K F v x} ⟨a, u, w, e, h, r1, r2⟩ => by subst e; exact .tup (.inl (.inl h)) (.cons (d.dp r1) (.cons (f.dp r2) .nil)),
  fun {x} h => by rw [PyData.canLay0, PyData.canLayAll0, PyData.canLayAll0, PyData.canLayAll0, d.lay h.1, f.lay h.2]; rfl,
  fun x => by
    rw [PyData.depth, PyData.depthAll, PyData.depthAll, PyData.depthAll]
    have h1 := d.deep x.1
    have h2 := f.deep x.2
    omega, fun x y => by
    rw [PyData.eqv, PyData.eqvAll, PyData.eqvAll, PyData.eqvAll, d.eqv, f.eqv, Bool.and_true, ← Bool.decide_and]
    exact decide_eq_decide.mpr (by cases x; cases y; simp)⟩
theorem shp {x : α} (h : d.ok x) (h2 : d.dep ≤ 64) : SeqAt.shaped (d.en x) = true := by
  unfold SeqAt.shaped
  rw [d.lay h, decide_eq_true (Nat.le_trans (d.deep x) h2)]
  rfl
end
section
variable {α : Type} [i : Rep α] [DecidableEq α] [d : Dat α] {X : Cx}
theorem dp_mono {K : PySem.W.Frag} {F H : Hp} {v : V} {x : α} (s : Same F H) (r : i.rp K F v x) : Dp K H v (d.en x) := d.dp (i.mono s r)
theorem o_eqD {x y : α} {k : Nat} (hr : Room k X.A) (hx : d.ok x) (hy : d.ok y) (h2 : autoParam (d.dep ≤ 64) aDec) : OB X (compareOp .Eq) x y (decide (x = y)) := ob_flat (op_eqD hr.units) fun F H v u Q s r1 r2 q =>
  ⟨d.en x, d.en y, dp_mono s r1, dp_mono s r2, shp hx h2, shp hy h2, q _ (by rw [d.eqv]; rfl)⟩
theorem o_neD {x y : α} {k : Nat} (hr : Room k X.A) (hx : d.ok x) (hy : d.ok y) (h2 : autoParam (d.dep ≤ 64) aDec) : OB X (compareOp .NotEq) x y (!decide (x = y)) := ob_flat (op_neD hr.units) fun F H v u Q s r1 r2 q =>
  ⟨d.en x, d.en y, dp_mono s r1, dp_mono s r2, shp hx h2, shp hy h2, q _ (by rw [d.eqv]; rfl)⟩
end
class Ty (α : Type) [i : Rep α] where
  ty : String
  is : ∀ {K F H v} {x : α}, Same F H → i.rp K F v x → TyX K H v (.type ty)
noncomputable instance : Ty Int := ⟨"int", fun {_ _ _ v x} _ h => by obtain rfl : v = .int x := h; exact .base (.int _)⟩
noncomputable instance : Ty Bool := ⟨"bool", fun {_ _ _ v x} _ h => by obtain rfl : v = .bl x := h; exact .base (.bl _)⟩
noncomputable instance : Ty (List Nat) := ⟨"str", fun {_ _ _ v x} _ h => by obtain rfl : v = .str (sx x) := h; exact .base (.str _)⟩
noncomputable instance {α : Type} [i : Rep α] : Ty (List α) := ⟨"list", fun {_ _ _ v x} s h => by obtain ⟨a, vs, rfl, h, _⟩ := h; exact .base (.lst (s _ _ h))⟩
noncomputable instance {α : Type} [i : Rep α] : Ty (Tup α) := ⟨"tuple", fun {_ _ _ v x} s h => by obtain ⟨a, vs, rfl, h, _⟩ := h; exact .base (.tup (s _ _ h))⟩
noncomputable instance {α β : Type} [i : Rep α] [j : Rep β] : Ty (α × β) := ⟨"tuple", fun {_ _ _ v x} s h => by obtain ⟨a, u, w, rfl, h, _⟩ := h; exact .base (.tup (s _ _ h))⟩
section
variable {X : Cx} {Γ : List Slot} {α β γ : Type} {i : Rep α} {j : Rep β} {l : Rep γ} {pos p p2 : Pos} {e a b c elt tg it : Expr} {es : List Expr} {E : SE} {rest body : List Stmt}
theorem ev_isi {α : Type} [i : Rep α] [t : Ty α] {x : α} (T : String) (k : Bool) (hm : X.mg "isinstance" = none) (hmT : X.mg (Str.ofString T) = none) (h : EV X Γ e x) (hvT : bootBuiltins (Str.ofString T) = some (.type T) := by decide +kernel) (hk : kitB t.ty T = some k := by decide +kernel) (hg : autoParam (Gl X "isinstance") aRfl) (hgT : autoParam (Gl X (Str.ofString T)) aRfl)
    (hnT : autoParam (Str.ofString T ≠ "__name__") aDec) (hdT : autoParam ((Str.ofString T == ("__debug__" : Str)) = false) aDec)
    (hs : autoParam (starEach [e, .Name (Str.ofString T) p2] X.env = (false, eval e X.env) :: starEach [.Name (Str.ofString T) p2] X.env) aStar) (hs2 : autoParam (starEach [.Name (Str.ofString T) p2] X.env = (false, eval (.Name (Str.ofString T) p2) X.env) :: starEach [] X.env) aStar) (hpl : autoParam ((backTo pos (starEach [.Name (Str.ofString T) p2] X.env)).any (·.1) = false) aPl) :
    EV X Γ (.Call (.Name "isinstance" p) [e, .Name (Str.ofString T) p2] [] pos) k := fun B F H σ Q L q =>
  WE.of (pe_callB call_isi hg hm (by decide +kernel) (pa_cons peW (pa_cons (pe_bltn (v := .ty T) hgT hmT hvT rfl hnT hdT) pa_nil hs2) hs) (by decide) (by decide) hs hpl) (h B F H σ _ L fun v F1 H1 e1 r1 =>
    ⟨v, .ty T, .type t.ty, .type T, k, rfl, .ty T, t.is (L.step e1).same r1, kit_ty hk, q _ F1 H1 e1 rfl⟩)
noncomputable def Le (Γ Γ' : List Slot) : Prop := Γ.length = Γ'.length ∧ ∀ (k : Nat) s, Γ'[k]? = some s → s = .no ∨ Γ[k]? = some s
theorem Le.refl : Le Γ Γ := ⟨rfl, fun _ _ h => .inr h⟩
theorem le_nil : Le [] [] := ⟨rfl, fun _ _ h => .inr h⟩
theorem le_cons {s : Slot} {Γ Γ' : List Slot} (h : Le Γ Γ') : Le (s :: Γ) (s :: Γ') := ⟨by simp [h.1], fun k t e => by
  cases k with
  | zero => exact .inr e
  | succ k => exact h.2 k t (by simpa using e)⟩
theorem le_no {s : Slot} {Γ Γ' : List Slot} (h : Le Γ Γ') : Le (s :: Γ) (.no :: Γ') := ⟨by simp [h.1], fun k t e => by
  cases k with
  | zero => simp at e; exact .inl e.symm
  | succ k => exact h.2 k t (by simpa using e)⟩
theorem Le.trans {Γ Γ' Γ'' : List Slot} (h : Le Γ Γ') (h2 : Le Γ' Γ'') : Le Γ Γ'' := ⟨h.1.trans h2.1, fun k s e => by
  rcases h2.2 k s e with z | z
  · exact .inl z
  · exact h.2 k s z⟩
theorem Lc.le {K : PySem.W.Frag} {B : Bs} {F H : Hp} {σ : L2.St} {Γ Γ' : List Slot} (L : Lc K B F H σ Γ) (h : Le Γ Γ') : Lc K B F H σ Γ' :=
  ⟨L.ext, L.len.trans h.1, fun k s e => by
    rcases h.2 k s e with rfl | e
    · trivial
    · exact L.ok k s e, fun x y o1 o2 hxy h1 h2 => by
    rcases h.2 x _ h1 with z | h1
    · cases z
    rcases h.2 y _ h2 with z | h2
    · cases z
    exact L.ap x y o1 o2 hxy h1 h2⟩
theorem st_le {sts : List Stmt} {Γ Γ' : List Slot} (h : Le Γ Γ') (hs : ST X sts Γ' E) : ST X sts Γ E := fun B F H σ D L ed => hs B F H σ D (L.le h) ed
end
noncomputable def lawS : Spec := fun A P _ => ∃ s : Scr, A = [vl s] ∧ s.l.length ≤ 63 ∧ P (rv true)
theorem hCX0 (P : Program) (w : World) (H : Hp) (s : Shared) (e : Value) (s' : Shared) : L2.CX P w [] H s (fun _ _ _ => False) e s' → False := fun ⟨_, _, _, _, _, _, _, _, _, _, _, _, z⟩ => z
theorem law_sp (K : PySem.W.Frag) (H : Hp) (a : Addr) (ns : List Int) (hl : ns.length ≤ 63) (hS : SqL K H a (ns.map V.int)) : spOf K lawS [.ref a] H (fun v _ => v = .bl true) fun _ _ _ => False := by
  refine ⟨H, [vl (Scr.mk ns)], Same.refl H, ⟨⟨a, rfl, hS⟩, trivial⟩, fun i j o1 o2 _ h1 _ => ?_, ⟨ns⟩, rfl, hl, fun v F' H' _ ok => ok⟩
  have := List.mem_of_getElem? h1
  rw [List.mem_singleton] at this
  cases this
section
variable {P : Program} {w : World} {K : PySem.W.Frag} {mg : Str → Option Value} {base : Heap}
noncomputable def BodyOk (P : Program) (w : World) (K : PySem.W.Frag) (mg : Str → Option Value) (base : Heap) (k : Nat) (n : Str) (st : Stmt) (N ps : List Str) (S : Spec) : Prop :=
  ∀ (f : Addr) (cdv : Value) (A : Around) (outer : List Env) (s : Shared) (H : Hp) (E : XK), Room k (A.deeper (envOfC n (defScope st) s.heap.objs.size f cdv)) → ∀ Γ Q R, S Γ Q R →
      ST (cxOf (L2.CX P w) P w K mg base N n (defScope st) f cdv A outer s H E).nox (defBody st) (Γ ++ List.replicate (N.length - ps.length) .no) (fin Q)
theorem law_fn {f : Addr} {fd : FuncData} {st : Stmt} {N : List Str} {x : Str} {k : Nat} (F : Fun K "law" "law" st f fd) (sc : FnScope N [x] (defScope st)) (body : BodyOk P w K mg base k "law" st N [x] lawS) :
    FnOk P w K mg base (L2.CX P w) (k + 1) f fd [x] (spOf K lawS) := by
  refine F.okX sc (fun vs H Q E ⟨F0, A, s, r, ap, h⟩ => ?_) (fun cdv A outer s H vs Q E hr h => ?_)
  · obtain ⟨s, rfl, _⟩ := h
    rw [r.len]; rfl
  · obtain ⟨F0, A0, sm, r, ap, h⟩ := h
    refine ⟨_, psW.nox, ?_⟩
    have hl : A0.length = 1 := by obtain ⟨s, rfl, _⟩ := h; rfl
    have L0 := lc_start (K := K) sm r ap (N.length - 1)
    have L1 : Lc K ⟨F0, H, MA A0⟩ F0 H (L2.start N vs) (A0 ++ List.replicate (N.length - 1) .no) := by
      unfold L2.start
      rw [show vs.length = 1 from r.len.trans hl]
      exact L0
    refine body f cdv A outer s H E hr A0 _ _ h ⟨F0, H, MA A0⟩ F0 H _ _ L1 ⟨fun F' H' σ' Γ' _ hq L => ?_, fun r v F' H' hq ex ok => hq v F' H' ex ok, fun _ _ _ _ _ z => z.elim, fun _ _ _ _ _ z => z.elim, fun _ _ _ _ _ _ _ _ z => z.elim⟩
    exact hq .non F' H' L.ext rfl
end
theorem ev_gintE {X : Cx} {Γ : List Slot} {pos : Pos} {n : Str} {z : Int} (hm : ∃ t, X.mg n = some (.int z t)) (hg : autoParam (Gl X n) aRfl) (hd : autoParam ((n == ("__debug__" : Str)) = false) aDec) : EV X Γ (.Name n pos) z := by
  obtain ⟨t, hm⟩ := hm
  exact ev_gint hm hg hd
theorem pgn {X : Cx} (k : Nat) {n : Str} {pos : Pos} (hN : X.N.Nodup) (hi : autoParam (X.N[k]? = some n) aRfl) (hx : autoParam (L2.Loc X.env.scope n) aLoc)
    (hf : autoParam (X.fn n = true ∨ X.env.scope.names.lookup n = some .local) Tw.aFn) : PG X (.Name n pos) (gName k) := pg_name hN hi hx hf
theorem Le.set {Γ Γ' : List Slot} (h : Le Γ Γ') (k : Nat) (s : Slot) : Le (Γ.set k s) (Γ'.set k s) := ⟨by simp [h.1], fun q t e => by
  rcases get_set_slot e with ⟨e1, e2, rfl⟩ | ⟨e1, e⟩
  · refine .inr ?_
    subst e1
    rw [List.getElem?_set_self (by rw [h.1]; exact e2)]
  · rcases h.2 q t e with z | z
    · exact .inl z
    · exact .inr (by rw [List.getElem?_set_ne e1]; exact z)⟩
theorem en_nil {X : Cx} {Γ : List Slot} {pos : Pos} (α : Type) [i : Rep α] : EN X Γ (.List [] pos) ([] : List α) := en_lst es_nil
theorem rng_get0 {n k : Nat} {x : Int} (h : (rng 0 n)[k]? = some x) : k < n ∧ x = (k : Int) := by
  obtain ⟨h1, h2⟩ := rng_get h
  exact ⟨h1, by rw [h2]; omega⟩
theorem rng_mem {lo : Int} {n : Nat} {x : Int} (h : x ∈ rng lo n) : ∃ k : Nat, k < n ∧ x = lo + k := by
  unfold rng at h
  obtain ⟨k, hk, rfl⟩ := List.mem_map.mp h
  exact ⟨k, List.mem_range.mp hk, rfl⟩
theorem joinOnes {A : Type} (xs : List A) (f : A → Nat) : joinL [] (xs.map fun x => ([f x] : Tx)) = xs.map f := by
  rw [show (fun x => ([f x] : Tx)) = (fun c => ([c] : Tx)) ∘ f from rfl, ← List.map_map, joinL_one]
theorem take_snoc {A : Type} {xs : List A} {k : Nat} {x : A} (h : xs[k]? = some x) : xs.take (k + 1) = xs.take k ++ [x] := by rw [List.take_add_one, h]; rfl
theorem lt_line {n : Nat} (h : n ≤ 1000) : n < sizeLine := Nat.lt_of_le_of_lt h (by decide)
theorem sum_ones {A : Type} (xs : List A) (f : A → Nat) : ((xs.map fun x => ([f x] : Tx)).map (·.length)).sum = xs.length := by
  rw [List.map_map, show (List.length ∘ fun x => ([f x] : Tx)) = fun _ => 1 from rfl, List.map_const', List.sum_replicate_nat]; omega
end Tw
namespace Tw
open PySem PySem.Spec PyProof.Rows L2 TL
section
variable {X : Cx} {Γ : List Slot} {α β γ δ : Type} {i : Rep α} {j : Rep β} {l : Rep γ} {m : Rep δ} {pos p p2 : Pos} {e a b c d elt tg it : Expr} {es : List Expr} {E : SE} {rest body : List Stmt}
theorem ev_all {bs : List Bool} (hm : X.mg "all" = none) (h : EV X Γ e bs) (hc : autoParam (X.calm = true) aRfl) (hg : autoParam (Gl X "all") aRfl) (hs : autoParam (starEach [e] X.env = (false, eval e X.env) :: starEach [] X.env) aStar) (hpl : autoParam ((backTo pos (starEach [] X.env)).any (·.1) = false) aPl) :
    EV X Γ (.Call (.Name "all" p) [e] [] pos) (bs.all id) :=
  ev_callB1 (cr_all hc) hm (by decide +kernel) h (fun F H v Q s r q => by
    obtain ⟨ad, vs, rfl, ha, pr⟩ := r
    exact ⟨ad, bs, rfl, by rw [← Rps.bls pr]; exact sq_of s ha, q _ F H (Ext.refl s) rfl⟩) hg (by decide) (by decide) hs hpl
theorem st_unpack4 (k1 k2 k3 k4 : Nat) {n1 n2 n3 n4 : Str} {x1 x2 x3 x4 : α} {q1 q2 q3 q4 tp : Pos} {kk} (he : EV X Γ e (Tup.mk [x1, x2, x3, x4])) (hr : ST X rest ((((Γ.set k1 (.val i x1)).set k2 (.val i x2)).set k3 (.val i x3)).set k4 (.val i x4)) E)
    (hg : PG X (.Tuple [.Name n1 q1, .Name n2 q2, .Name n3 q3, .Name n4 q4] kk tp) (gTup X.K 4 (gCons (gName k1) (gCons (gName k2) (gCons (gName k3) (gCons (gName k4) gNil))))))
    (hs : autoParam (swapsWithSole [.Tuple [.Name n1 q1, .Name n2 q2, .Name n3 q3, .Name n4 q4] kk tp] e pos.line X.env = pure false) aRfl) (hw : autoParam (swappedStores [.Tuple [.Name n1 q1, .Name n2 q2, .Name n3 q3, .Name n4 q4] kk tp] e X.env = pure none) aRfl)
    (h1 : autoParam ((assignEach [.Tuple [.Name n1 q1, .Name n2 q2, .Name n3 q3, .Name n4 q4] kk tp] X.env).map (·.2) = [assign (.Tuple [.Name n1 q1, .Name n2 q2, .Name n3 q3, .Name n4 q4] kk tp) X.env]) aRfl) :
    ST X (.Assign [.Tuple [.Name n1 q1, .Name n2 q2, .Name n3 q3, .Name n4 q4] kk tp] e pos :: rest) Γ E := fun B F H σ D L ed =>
  WP.cons (ps_asg peW hg hs hw h1) (he B F H σ _ L fun v F1 H1 e1 r1 => by
    obtain ⟨ad, vs, rfl, ha, pr⟩ := r1
    have L1 := L.step e1
    match vs, pr with
    | [v1, v2, v3, v4], .cons p1 (.cons p2 (.cons p3 (.cons p4 .nil))) =>
      exact ⟨ad, _, rfl, st_of L1.same ha, rfl, v1, _, rfl, v2, _, rfl, v3, _, rfl, v4, _, rfl, rfl, hr B F1 H1 _ D ((((L1.putV k1 p1).putV k2 p2).putV k3 p3).putV k4 p4) (ed.weak e1.ff)⟩)
theorem pg4 (k1 k2 k3 k4 : Nat) {n1 n2 n3 n4 : Str} {q1 q2 q3 q4 tp : Pos} {kk} (hN : X.N.Nodup) (hc : autoParam (X.calm = true) aRfl) (h1 : PG X (.Name n1 q1) (gName k1)) (h2 : PG X (.Name n2 q2) (gName k2)) (h3 : PG X (.Name n3 q3) (gName k3)) (h4 : PG X (.Name n4 q4) (gName k4))
    (a1 : autoParam ((assignEach [.Name n1 q1, .Name n2 q2, .Name n3 q3, .Name n4 q4] X.env).map (·.2) = assign (.Name n1 q1) X.env :: (assignEach [.Name n2 q2, .Name n3 q3, .Name n4 q4] X.env).map (·.2)) aRfl)
    (a2 : autoParam ((assignEach [.Name n2 q2, .Name n3 q3, .Name n4 q4] X.env).map (·.2) = assign (.Name n2 q2) X.env :: (assignEach [.Name n3 q3, .Name n4 q4] X.env).map (·.2)) aRfl)
    (a3 : autoParam ((assignEach [.Name n3 q3, .Name n4 q4] X.env).map (·.2) = assign (.Name n3 q3) X.env :: (assignEach [.Name n4 q4] X.env).map (·.2)) aRfl)
    (a4 : autoParam ((assignEach [.Name n4 q4] X.env).map (·.2) = assign (.Name n4 q4) X.env :: (assignEach [] X.env).map (·.2)) aRfl)
    (hn : autoParam ((assignEach [.Name n1 q1, .Name n2 q2, .Name n3 q3, .Name n4 q4] X.env).length = 4) aRfl) (hst : autoParam ((assignEach [.Name n1 q1, .Name n2 q2, .Name n3 q3, .Name n4 q4] X.env).findIdx? (·.1) = none) aRfl) :
    PG X (.Tuple [.Name n1 q1, .Name n2 q2, .Name n3 q3, .Name n4 q4] kk tp) (gTup X.K 4 (gCons (gName k1) (gCons (gName k2) (gCons (gName k3) (gCons (gName k4) gNil))))) :=
  pg_tup hc (pgs_cons h1 (pgs_cons h2 (pgs_cons h3 (pgs_cons h4 pgs_nil a4) a3) a2) a1) hn hst
theorem pg2 (k1 k2 : Nat) {n1 n2 : Str} {q1 q2 tp : Pos} {kk} (h1 : PG X (.Name n1 q1) (gName k1)) (h2 : PG X (.Name n2 q2) (gName k2)) (hc : autoParam (X.calm = true) aRfl)
    (a3 : autoParam ((assignEach [.Name n1 q1, .Name n2 q2] X.env).map (·.2) = assign (.Name n1 q1) X.env :: (assignEach [.Name n2 q2] X.env).map (·.2)) aRfl)
    (a4 : autoParam ((assignEach [.Name n2 q2] X.env).map (·.2) = assign (.Name n2 q2) X.env :: (assignEach [] X.env).map (·.2)) aRfl)
    (hn : autoParam ((assignEach [.Name n1 q1, .Name n2 q2] X.env).length = 2) aRfl) (hst : autoParam ((assignEach [.Name n1 q1, .Name n2 q2] X.env).findIdx? (·.1) = none) aRfl) :
    PG X (.Tuple [.Name n1 q1, .Name n2 q2] kk tp) (gTup X.K 2 (gCons (gName k1) (gCons (gName k2) gNil))) := pg_tup hc (pgs_cons h1 (pgs_cons h2 pgs_nil a4) a3) hn hst
structure Thing where
  u : Unit
noncomputable instance repThing : Rep Thing := ⟨fun _ _ _ _ => True, fun _ h => h⟩
theorem things {F : Hp} {K : PySem.W.Frag} : ∀ vs : List V, ∃ xs : List Thing, Paired (fun u x => repThing.rp K F u x) vs xs
  | [] => ⟨[], .nil⟩
  | v :: vs => let ⟨xs, h⟩ := things vs; ⟨⟨()⟩ :: xs, .cons trivial h⟩
theorem st_appendAny (k : Nat) {n : Str} {ad : Addr} {xs : List α} {P : Ret → Prop} {apos cpos : Pos} (he : EX X Γ e P) (hr : ST X rest (Γ.set k .no) E) (hz : xs.length < sizeLine) (hg : autoParam (Γ[k]? = some (.lst i ad xs)) aRfl) (hN : autoParam (X.N[k]? = some n) aRfl)
    (hv : autoParam (Vis X.env.scope n) aVis) (hd : autoParam ((n == ("__debug__" : Str)) = false) aDec) (hcd : autoParam ((n == ("__classdict__" : Str)) = false) aDec)
    (hbase : autoParam (attributeBase (.Name n p) "append" X.env (eval (.Name n p) X.env) = eval (.Name n p) X.env) aRfl)
    (hfew : autoParam (((backTo cpos (starEach [e] X.env)).all (fun x => !x.1) && (backToKw cpos (keywordEach [] X.env)).all (fun x => x.1.isSome) && decide ([e].length + ([] : List Keyword).length + (if ([] : List Keyword).isEmpty then 0 else 1) < 30)) = true) aRfl)
    (hline : autoParam ((apos.endLine == cpos.line) = true) aRfl) (hs : autoParam (starEach [e] X.env = (false, eval e X.env) :: starEach [] X.env) aStar) (hplain : autoParam ((backTo cpos (starEach [] X.env)).any (·.1) = false) aRfl)
    (hsw : autoParam (swapsWith (.Call (.Attribute (.Name n p) "append" apos) [e] [] cpos) none pos.line X.env = pure false) aRfl) :
    ST X (.Expr (.Call (.Attribute (.Name n p) "append" apos) [e] [] cpos) pos :: rest) Γ E := fun B F H σ D L ed => by
  obtain ⟨vs, ea, fa, ba, ha, pr⟩ := slot_lst L hg
  refine WP.cons (ps_expr (pe_bm PySem.F.plainAttrs_list PySem.F.slot_list_append PySem.F.type_list_append mt_append (pe_var hN hv hd hcd) (pa_cons peW pa_nil hs) hbase hfew hline hs hplain) hsw) ?_
  refine ⟨_, ea, .inl ⟨rfl, _, .inl (.inl ha)⟩, he B F H σ _ L fun r v F1 H1 _ e1 _ => ?_⟩
  have L1 := L.step e1
  obtain ⟨vs1, _, _, _, ha1, pr1⟩ := slot_lst L1 hg
  refine ⟨ad, vs1, v, rfl, rfl, ha1, by rw [Paired.length pr1]; exact hz, ?_⟩
  obtain ⟨ts, ht⟩ := things (F := F1) (K := X.K) (vs1 ++ [v])
  have L2 := (L1.updL hg ht).le (Γ' := Γ.set k .no) ⟨by simp, fun q t e => by
    rcases get_set_slot e with ⟨_, _, rfl⟩ | ⟨n1, e⟩
    · exact .inl rfl
    · exact .inr (by rw [List.getElem?_set_ne n1]; exact e)⟩
  exact hr B F1 _ σ D L2 (ed.weak e1.ff)
end
end Tw
namespace Tw
open PySem PySem.Spec PyProof.Rows L2 TL
noncomputable def XPlain (K : PySem.W.Frag) (n : Str) : Prop := ∀ C, PySem.W.nsIn K mainGlobals n = some (some (.ref C)) → PySem.W.excIn K C [.type "ValueError", .type "Exception", .type "BaseException", .type "object"] "ValueError.__new__" = true
noncomputable def XSub (K : PySem.W.Frag) (n m : Str) (b : Bool) : Prop := ∀ C D, PySem.W.nsIn K mainGlobals n = some (some (.ref C)) → PySem.W.nsIn K mainGlobals m = some (some (.ref D)) → PySem.W.exmOne K (.ref C) (.ref D) = some b ∧ PySem.W.kitOne K (.ref C) (.ref D) = some b
noncomputable def XSubT (K : PySem.W.Frag) (n : Str) (T : String) (b : Bool) : Prop := ∀ C, PySem.W.nsIn K mainGlobals n = some (some (.ref C)) → PySem.W.kitOne K (.ref C) (.type T) = some b
noncomputable def XNone (K : PySem.W.Frag) (t : String) (m : Str) : Prop := ∀ D, PySem.W.nsIn K mainGlobals m = some (some (.ref D)) → PySem.W.kitOne K (.type t) (.ref D) = some false
theorem ns_one {K : PySem.W.Frag} {n : Str} {C D : Addr} (h1 : PySem.W.nsIn K mainGlobals n = some (some (.ref C))) (h2 : PySem.W.nsIn K mainGlobals n = some (some (.ref D))) : D = C := by
  rw [h1] at h2
  cases h2
  rfl
theorem kitOf {K : PySem.W.Frag} {t : Value} {D : Addr} {b : Bool} (ht : PySem.W.typeIn K (.ref D) = some (.type "type")) (hd : PySem.W.hasDictIn K D = true) (h : PySem.W.subIn K t (.ref D) = some b) (hb : t = .ref D → b = true) : PySem.W.kitOne K t (.ref D) = some b := by
  unfold PySem.W.kitOne
  split
  · rename_i e
    rw [hb (beq_iff_eq.mp e)]
  · obtain ⟨cd, hc, _⟩ := PySem.W.any_some hd
    show (if ((PySem.W.clsIn K D).isSome && PySem.W.typeIn K (.ref D) == some (.type "type")) = true then PySem.W.subIn K t (.ref D) else none) = some b
    rw [if_pos (by rw [hc, ht]; rfl)]
    exact h
theorem XPlain.mk {K : PySem.W.Frag} {n : Str} {C : Addr} (a : PySem.W.nsIn K mainGlobals n = some (some (.ref C))) (h : PySem.W.excIn K C [.type "ValueError", .type "Exception", .type "BaseException", .type "object"] "ValueError.__new__" = true) : XPlain K n := fun D e => ns_one a e ▸ h
theorem XSub.mk {K : PySem.W.Frag} {n m : Str} {b : Bool} {C D : Addr} (a1 : PySem.W.nsIn K mainGlobals n = some (some (.ref C))) (a2 : PySem.W.nsIn K mainGlobals m = some (some (.ref D))) (ht : PySem.W.typeIn K (.ref D) = some (.type "type")) (hs : PySem.W.subIn K (.ref D) (.type "BaseException") = some true) (hd : PySem.W.hasDictIn K D = true)
    (h : PySem.W.subIn K (.ref C) (.ref D) = some b) (hb : C = D → b = true) : XSub K n m b := fun C' D' e1 e2 => by
  obtain rfl := ns_one a1 e1
  obtain rfl := ns_one a2 e2
  exact ⟨PySem.W.exm_ref hs hd ht h, kitOf ht hd h fun e => hb (Value.ref.inj e)⟩
theorem XSubT.mk {K : PySem.W.Frag} {n : Str} {T : String} {b : Bool} {C : Addr} (hm : PySem.W.kitMeta T = true) (a : PySem.W.nsIn K mainGlobals n = some (some (.ref C))) (h : PySem.W.subIn K (.ref C) (.type T) = some b) : XSubT K n T b := fun D e => by
  obtain rfl := ns_one a e
  show (if PySem.W.kitMeta T = true then PySem.W.subIn K (.ref D) (.type T) else none) = some b
  rw [if_pos hm]
  exact h
theorem XNone.mk {K : PySem.W.Frag} {t : String} {m : Str} {D : Addr} (a : PySem.W.nsIn K mainGlobals m = some (some (.ref D))) (ht : PySem.W.typeIn K (.ref D) = some (.type "type")) (hd : PySem.W.hasDictIn K D = true) (h : PySem.W.subIn K (.type t) (.ref D) = some false) : XNone K t m := fun D' e => by
  obtain rfl := ns_one a e
  exact kitOf ht hd h fun z => nomatch z
noncomputable def ErrO (cls : Value) (d : Option Addr) (a : Addr) : HO := .ext fun h => ∃ (oe : Obj) (vs : Array Value), h.get? a = some oe ∧ Zc cls d oe ∧ oe.data = .fields vs
structure Err where
  cls : Str
structure ErrW (α : Type) where
  cls : Str
  fld : Str
  why : α
noncomputable def ErrAt (K : PySem.W.Frag) (F : Hp) (v : V) (n : Str) (d : Option Addr) : Prop := ∃ a C, v = .ref a ∧ F a = some (ErrO (.ref C) d a) ∧ PySem.W.nsIn K mainGlobals n = some (some (.ref C))
noncomputable instance repErr : Rep Err := ⟨fun K F v x => ErrAt K F v x.cls none, fun s ⟨a, C, e, h, n⟩ => ⟨a, C, e, s _ _ h, n⟩⟩
noncomputable instance repErrW {α : Type} [i : Rep α] : Rep (ErrW α) := ⟨fun K F v x => ∃ dx w, ErrAt K F v x.cls (some dx) ∧ F dx = some (.xd [(x.fld, w)]) ∧ i.rp K F w x.why,
  fun s ⟨dx, w, ⟨a, C, e, h, n⟩, h2, r⟩ => ⟨dx, w, ⟨a, C, e, s _ _ h, n⟩, s _ _ h2, i.mono s r⟩⟩
class IsErr (α : Type) [i : Rep α] where
  cls : α → Str
  at_ : ∀ {K F v x}, i.rp K F v x → ∃ d, ErrAt K F v (cls x) d ∧ ∀ dx, d = some dx → ∃ fs, F dx = some (.xd fs)
noncomputable instance : IsErr Err := ⟨fun x => x.cls, fun h => ⟨none, h, fun _ z => nomatch z⟩⟩
noncomputable instance {α : Type} [i : Rep α] : IsErr (ErrW α) := ⟨fun x => x.cls, fun ⟨dx, w, h, h2, _⟩ => ⟨some dx, h, fun d e => by cases e; exact ⟨_, h2⟩⟩⟩
end Tw
namespace Tw
open PySem PySem.Spec PyProof.Rows L2 TL
section
variable {X : Cx} {Γ : List Slot} {α β γ : Type} {i : Rep α} {j : Rep β} {l : Rep γ} {pos p p2 : Pos} {e a b c elt tg it : Expr} {es : List Expr} {E : SE} {rest body : List Stmt}
noncomputable def XFld (K : PySem.W.Frag) (n f : Str) : Prop := ∀ C, PySem.W.nsIn K mainGlobals n = some (some (.ref C)) → PySem.W.findIn K (.ref C) f = some none
class NonN (α : Type) [i : Rep α] : Prop where
  nn : ∀ {K F v} {x : α}, i.rp K F v x → v ≠ .non
noncomputable instance : NonN Int := ⟨fun {_ _ v x} h z => by obtain rfl : v = .int x := h; cases z⟩
noncomputable instance : NonN Bool := ⟨fun {_ _ v x} h z => by obtain rfl : v = .bl x := h; cases z⟩
noncomputable instance : NonN (List Nat) := ⟨fun {_ _ v x} h z => by obtain rfl : v = .str (sx x) := h; cases z⟩
noncomputable instance {α : Type} [i : Rep α] : NonN (List α) := ⟨fun h z => by obtain ⟨a, vs, rfl, _⟩ := h; cases z⟩
noncomputable instance {α : Type} [i : Rep α] : NonN (Tup α) := ⟨fun h z => by obtain ⟨a, vs, rfl, _⟩ := h; cases z⟩
noncomputable instance {α β : Type} [i : Rep α] [j : Rep β] : NonN (α × β) := ⟨fun h z => by obtain ⟨a, u, w, rfl, _⟩ := h; cases z⟩
noncomputable instance : NonN Err := ⟨fun h z => by obtain ⟨a, u, rfl, _⟩ := h; cases z⟩
noncomputable instance {α : Type} [i : Rep α] : NonN (ErrW α) := ⟨fun h z => by obtain ⟨a, u, ⟨_, _, rfl, _⟩, _⟩ := h; cases z⟩
theorem ev_un {x : α} (h : EV X Γ e (some x)) : EV X Γ e x := fun B F H σ Q L q => h B F H σ Q L fun v F' H' ex r => q v F' H' ex r
noncomputable def InitSp (K : PySem.W.Frag) (C : Addr) (fld : Str) : Sp := fun vs H Q E => ∃ (a : Addr) (v : V), vs = [.ref a, v] ∧ H a = some (exo a C none) ∧ ∀ dx, H dx = none → dx ≠ a → Q .non (upd (upd H dx (exd dx [(fld, v)])) a (exo a C (some dx)))
structure XInit (P : Program) (w : World) (K : PySem.W.Frag) (mg : Str → Option Value) (base : Heap) (k : Nat) (n fld : Str) : Prop where
  ex : ∀ C, PySem.W.nsIn K mainGlobals n = some (some (.ref C)) → OexC K C ∧ ∃ (fI : Addr) (fd : FuncData) (ps : List Str), PySem.W.findIn K (.ref C) "__init__" = some (some (.ref fI)) ∧ PySem.W.typeIn K (.ref fI) = some (.type "function") ∧ Binds K fd ps [] ∧ FnOk P w K mg base (L2.CX P w) k fI fd ps (InitSp K C fld)
end
end Tw
namespace Tw
open PySem PySem.Spec PyProof.Rows L2 TL
end Tw
namespace Tw
open PySem PySem.Spec PyProof.Rows L2 TL
section
variable {X : Cx} {Γ : List Slot} {α β γ : Type} {i : Rep α} {j : Rep β} {l : Rep γ} {pos p p2 : Pos} {e a b c elt tg it : Expr} {es : List Expr} {E : SE} {rest body : List Stmt}
noncomputable def EAo (X : Cx) (Γ : List Slot) (es : List Expr) (P : List Slot → Prop) : Prop :=
  ∀ B F H σ Q, Lc X.K B F H σ Γ → (∀ vs A F' H', P A → Ext F H F' H' → VsOkO X.K F' H' vs A → Apart A → (∀ b, MA A b → H b = none) → Q vs H') → WA X es σ H Q
theorem MA_cons {s : Slot} {A : List Slot} {b : Addr} (h : MA (s :: A) b) : (∃ o, s = .own o ∧ b ∈ o.fp) ∨ MA A b := by
  obtain ⟨o, h1, h2⟩ := h
  rcases List.mem_cons.mp h1 with z | z
  · exact .inl ⟨o, z.symm, h2⟩
  · exact .inr ⟨o, z, h2⟩
theorem Apart.tail {s : Slot} {A : List Slot} (h : Apart A) (hs : ∀ o, s = .own o → ∀ b ∈ o.fp, ¬ MA A b) : Apart (s :: A) := fun x y o1 o2 hxy h1 h2 b hb1 hb2 => by
  cases x with
  | zero =>
    cases y with
    | zero => exact hxy rfl
    | succ y => exact hs o1 (Option.some.inj h1) b hb1 ⟨o2, List.mem_of_getElem? (by simpa using h2), hb2⟩
  | succ x =>
    cases y with
    | zero => exact hs o2 (Option.some.inj h2) b hb2 ⟨o1, List.mem_of_getElem? (by simpa using h1), hb1⟩
    | succ y => exact h x y o1 o2 (fun z => hxy (by rw [z])) (by simpa using h1) (by simpa using h2) b hb1 hb2
theorem eao_nil : EAo X Γ [] (fun A => A = []) := fun B F H σ Q L q => WA.of pa_nil (q [] [] F H rfl (Ext.refl L.same) trivial (fun x y o1 o2 _ h1 _ => by cases h1) fun b h => by obtain ⟨_, z, _⟩ := h; cases z)
theorem eao_v {x : α} {P : List Slot → Prop} (h : EV X Γ e x) (hr : EAo X Γ es P) (hs : autoParam (starEach (e :: es) X.env = (false, eval e X.env) :: starEach es X.env) aStar) : EAo X Γ (e :: es) (fun A => ∃ A', A = .val i x :: A' ∧ P A') := fun B F H σ Q L q =>
  WA.of (pa_cons peW paW hs) (h B F H σ _ L fun v F1 H1 e1 r1 => hr B F1 H1 σ _ (L.step e1) fun vs A F2 H2 hP e2 ok ap n => q (v :: vs) (.val i x :: A) F2 H2 ⟨A, rfl, hP⟩ (e1.trans e2) ⟨i.mono e2.ff r1, ok⟩ (ap.tail fun o z => nomatch z) fun b m => by
    rcases MA_cons m with ⟨o, z, _⟩ | m
    · cases z
    · exact e1.hs.free (n b m))
theorem ex_callO {n : Str} {k : Nat} {ps : List Str} {S : Spec} {PA : List Slot → Prop} {P : Ret → Prop} (G : Has X.prog X.w X.K X.mg X.base k n ps S) (hr : Room k X.A) (ha : EAo X Γ (e :: es) PA)
    (hS : ∀ A, PA A → ∀ P' R', (∀ r, P r → P' r) → S A P' R') (hg : autoParam (Gl X n) aRfl) (hd : autoParam ((n == ("__debug__" : Str)) = false) aDec)
    (he : autoParam (starEach (e :: es) X.env = (false, eval e X.env) :: starEach es X.env) aStar) (hpl : autoParam ((backTo pos (starEach es X.env)).any (·.1) = false) aPl) : EX X Γ (.Call (.Name n p) (e :: es) [] pos) P := fun B F H σ Q L q => by
  obtain ⟨f, fd, hm, hk, hb, G⟩ := G.ex
  refine WE.of (pe_call G hr hg hm hk hb .nil passL paW hd he hpl) (ha B F H σ _ L fun vs A F1 H1 hP e1 r1 ap n1 => ?_)
  rw [List.append_nil]
  exact ⟨F1, A, (L.step e1).same, r1, ap, hS A hP _ _ fun r hr v F2 H2 e2 ok => q r v F2 H2 hr (e1.thenM e2 n1) (ok.imp fun b h => h.elim (fun z => e1.hs.free z) fun m => n1 b m)⟩
theorem st_setO (k : Nat) {n : Str} {P0 : Own → Prop} (he : EX X Γ e (fun r => r = .own P0)) (hr : ∀ o, P0 o → ST X rest (Γ.set k (.own o)) E) (hN : X.N.Nodup) (hi : autoParam (X.N[k]? = some n) aRfl) (hx : autoParam (L2.Loc X.env.scope n) aLoc)
    (hs : autoParam (swapsWith e (some (.Name n p)) pos.line X.env = pure false) aRfl) (hf : autoParam (X.fn n = true ∨ X.env.scope.names.lookup n = some .local) Tw.aFn) : ST X (.Assign [.Name n p] e pos :: rest) Γ E := fun B F H σ D L ed =>
  WP.cons (ps_set hN hi hx peW hs hf) (he B F H σ _ L fun r v F1 H1 er e1 r1 => by
    subst er
    obtain ⟨o, hP0, f, ok1⟩ := r1
    exact hr o hP0 B F1 H1 _ D (L.putO k e1 f ok1) (ed.weak e1.ff))
end
end Tw
namespace Tw
open PySem PySem.Spec PyProof.Rows L2 TL
structure Dx (K : PySem.W.Frag) (n fld qual : Str) (st : Stmt) (ps : List Str) : Prop where
  ex : ∃ C fI fd, PySem.W.nsIn K mainGlobals n = some (some (.ref C)) ∧ OexC K C ∧ PySem.W.findIn K (.ref C) fld = some none ∧ PySem.W.findIn K (.ref C) "__init__" = some (some (.ref fI)) ∧ PySem.W.typeIn K (.ref fI) = some (.type "function") ∧ Fun K "__init__" qual st fI fd ∧ Binds K fd ps []
theorem Dx.fld {K : PySem.W.Frag} {n fld qual : Str} {st : Stmt} {ps : List Str} (D : Dx K n fld qual st ps) : XFld K n fld := fun C h => by
  obtain ⟨C', fI, fd, hC, _, hno, _⟩ := D.ex
  obtain rfl := ns_one hC h
  exact hno
section
variable {P : Program} {w : World} {K : PySem.W.Frag} {mg : Str → Option Value} {base : Heap}
theorem XInit.of {n fld qual : Str} {st : Stmt} {N : List Str} {x y : Str} (D : Dx K n fld qual st [x, y]) (sc : FnScope N [x, y] (defScope st)) (hN : N.length = 2)
    (body : ∀ (C fI : Addr) (T : OexC K C) (hno : PySem.W.findIn K (.ref C) fld = some none) (cdv : Value) (A : Around) (outer : List Env) (s : Shared) (H : Hp) (E : XK) (a : Addr) (v : V) (Q : VK), H a = some (exo a C none) →
      (∀ dx, H dx = none → dx ≠ a → Q .non (upd (upd H dx (exd dx [(fld, v)])) a (exo a C (some dx)))) → WP (cxOf (L2.CX P w) P w K mg base N qual (defScope st) fI cdv A outer s H E) (defBody st) { nx := fun _ H' => Q .non H', rt := Q } [some (.ref a), some v] H) :
    XInit P w K mg base 1 n fld := by
  obtain ⟨C, fI, fd, hC, T, hno, iC, tI, F, hb⟩ := D.ex
  refine ⟨fun C' hC' => ?_⟩
  obtain rfl := ns_one hC hC'
  refine ⟨T, fI, fd, [x, y], iC, tI, hb, F.okX sc (fun vs H Q E ⟨a, v, e, _⟩ => by rw [e]; rfl) (fun cdv A outer s H vs Q E hr h => ?_)⟩
  obtain ⟨a, v, rfl, ha, hq⟩ := h
  refine ⟨_, psW, ?_⟩
  have e1 : L2.start N [V.ref a, v] = [some (.ref a), some v] := by
    unfold L2.start
    rw [hN]
    rfl
  rw [e1]
  exact body C' fI T hno cdv A outer s H E a v Q ha hq
end
section
variable {X : Cx} {Γ : List Slot} {α β γ : Type} {i : Rep α} {j : Rep β} {l : Rep γ} {pos p p2 : Pos} {e a b c elt tg it : Expr} {es : List Expr} {E : SE} {rest body : List Stmt}
theorem Lc.freeze {K : PySem.W.Frag} {B : Bs} {F H : Hp} {σ : L2.St} {k : Nat} {o : Own} {x : α} (L : Lc K B F H σ Γ) (hk : Γ[k]? = some (.own o)) (hx : Froz o x) : Lc K B (frz F H o.fp) H σ (Γ.set k (.val i x)) ∧ Same F (frz F H o.fp) := by
  obtain ⟨v, ev, ok, f⟩ := slot_own L hk
  have f0 : ∀ b ∈ o.fp, F b = none := fun b hb => (f b hb).1
  refine ⟨⟨⟨L.ext.ff.trans (frz_le f0), frz_same L.same, L.ext.hh, fun a hm h1 h2 => ?_, L.ext.th⟩, by simp [L.len], fun q t hq => ?_, L.ap.put k rfl⟩, frz_le f0⟩
  · have na : a ∉ o.fp := fun hb => (f a hb).2.elim (fun z => h2 z) hm
    rw [frz_out na]
    exact L.ext.nwM a hm h1 h2
  · rcases get_set_slot hq with ⟨e1, e2, rfl⟩ | ⟨e1, hq'⟩
    · subst e1
      rw [ev]
      exact ⟨v, rfl, hx L.same ok f0⟩
    · have old := L.ok q t hq'
      cases t with
      | no => trivial
      | val i x => obtain ⟨v, e2, r⟩ := old; exact ⟨v, e2, i.mono (frz_le f0) r⟩
      | own o2 =>
        obtain ⟨u, eu, ok2, f2⟩ := old
        exact ⟨u, eu, o2.stay (frz_le f0) (fun _ _ _ h => h) ok2, fun b hb => ⟨by rw [frz_out (fun hb2 => L.ap k q o o2 e1 hk hq' b hb2 hb)]; exact (f2 b hb).1, (f2 b hb).2⟩⟩
theorem st_freeze (k : Nat) {o : Own} {x : α} {sts : List Stmt} (hx : Froz o x) (h : ST X sts (Γ.set k (.val i x)) E) (hk : autoParam (Γ[k]? = some (.own o)) aRfl) : ST X sts Γ E := fun B F H σ D L ed => by
  obtain ⟨L', s⟩ := L.freeze hk hx
  exact h B _ H σ D L' (ed.weak s)
theorem st_setEx (k : Nat) {n : Str} {G : α → Prop} (he : EX X Γ e (fun r => ∃ x, G x ∧ r = .val i x)) (hr : ∀ x, G x → ST X rest (Γ.set k (.val i x)) E) (hN : X.N.Nodup) (hi : autoParam (X.N[k]? = some n) aRfl) (hx : autoParam (L2.Loc X.env.scope n) aLoc)
    (hs : autoParam (swapsWith e (some (.Name n p)) pos.line X.env = pure false) aRfl) (hf : autoParam (X.fn n = true ∨ X.env.scope.names.lookup n = some .local) Tw.aFn) : ST X (.Assign [.Name n p] e pos :: rest) Γ E := fun B F H σ D L ed =>
  WP.cons (ps_set hN hi hx peW hs hf) (he B F H σ _ L fun r v F1 H1 er e1 r1 => by
    obtain ⟨x, hG, rfl⟩ := er
    exact hr x hG B F1 H1 _ D ((L.step e1).putV k r1) (ed.weak e1.ff))
end
set_option genInjectivity true in
structure Why where
  w : Tx
  ns : List Int
  deriving DecidableEq
noncomputable instance repWhy : Rep Why := ⟨fun _ H v x => ∃ a, v = .ref a ∧ H a = some (.tup (.str (sx x.w) :: x.ns.map V.int)), fun s ⟨a, e, h⟩ => ⟨a, e, s _ _ h⟩⟩
theorem dpInts {K : PySem.W.Frag} {F : Hp} : ∀ ns : List Int, DpAll K F (ns.map V.int) (ns.map PyData.int)
  | [] => .nil
  | n :: ns => .cons (.int n) (dpInts ns)
theorem layInts : ∀ ns : List Int, PyData.canLayAll0 (ns.map PyData.int) = true
  | [] => by rw [List.map_nil, PyData.canLayAll0]
  | n :: ns => by rw [List.map_cons, PyData.canLayAll0, PyData.canLay0, layInts ns]; rfl
theorem depInts : ∀ ns : List Int, PyData.depthAll (ns.map PyData.int) = 0
  | [] => by rw [List.map_nil, PyData.depthAll]
  | n :: ns => by rw [List.map_cons, PyData.depthAll, depInts ns]; simp [PyData.depth]
noncomputable abbrev instDatTx : Dat (List Nat) := inferInstance
noncomputable instance : Dat Why := ⟨fun x => .tuple (.str (sx x.w) :: x.ns.map PyData.int), fun x => TxOk x.w, 1, fun {K F v x} ⟨a, e, h⟩ => by subst e; exact .tup (.inl (.inl h)) (.cons (.str _) (dpInts _)),
  fun {x} h => by
    rw [PyData.canLay0, PyData.canLayAll0, layInts]
    have := (instDatTx).lay (x := x.w) h
    show (PyData.canLay0 (.str (sx x.w)) && true) = true
    rw [show PyData.canLay0 (.str (sx x.w)) = true from this]; rfl,
  fun x => by rw [PyData.depth, PyData.depthAll, depInts]; simp [PyData.depth], fun x y => by
    rw [PyData.eqv, PyData.eqvAll]
    have h1 := (instDatTx).eqv x.w y.w
    have h2 := eqvAll (α := Int) x.ns y.ns
    rw [show PyData.eqv (.str (sx x.w)) (.str (sx y.w)) = decide (x.w = y.w) from h1, show PyData.eqvAll (x.ns.map PyData.int) (y.ns.map PyData.int) = decide (x.ns = y.ns) from h2, ← Bool.decide_and]
    exact decide_eq_decide.mpr (by cases x; cases y; simp)⟩
noncomputable instance : Ty Why := ⟨"tuple", fun {_ _ _ v x} s h => by obtain ⟨a, rfl, h⟩ := h; exact .base (.tup (s _ _ h))⟩
noncomputable instance : NonN Why := ⟨fun h z => by obtain ⟨a, rfl, _⟩ := h; cases z⟩
section
variable {X : Cx} {Γ : List Slot} {pos p p2 : Pos} {a : Expr} {es : List Expr}
theorem eao_ex {α : Type} {i : Rep α} {G : α → Prop} {P : List Slot → Prop} {e : Expr} (h : EX X Γ e (fun r => ∃ x, G x ∧ r = .val i x)) (hr : EAo X Γ es P) (hs : autoParam (starEach (e :: es) X.env = (false, eval e X.env) :: starEach es X.env) aStar) : EAo X Γ (e :: es) (fun A => ∃ x A', G x ∧ A = .val i x :: A' ∧ P A') := fun B F H σ Q L q =>
  WA.of (pa_cons peW paW hs) (h B F H σ _ L fun r v F1 H1 er e1 r1 => by
    obtain ⟨x, hG, rfl⟩ := er
    exact hr B F1 H1 σ _ (L.step e1) fun vs A F2 H2 hP e2 ok ap n => q (v :: vs) (.val i x :: A) F2 H2 ⟨x, A, hG, rfl, hP⟩ (e1.trans e2) ⟨i.mono e2.ff r1, ok⟩ (ap.tail fun o z => nomatch z) fun b m => by
      rcases MA_cons m with ⟨o, z, _⟩ | m
      · cases z
      · exact e1.hs.free (n b m))
end
end Tw
namespace Tw
open PySem PySem.Spec PyProof.Rows L2 TL
section
variable {K : PySem.W.Frag} {B : Bs} {F H F' H' : Hp} {σ : L2.St} {Γ : List Slot} {M : Addr → Prop}
theorem Lc.after (L : Lc K B F H σ Γ) (e : ExtM M F H F' H') {k : Nat} {o : Own} (hg : Γ[k]? = some (.own o)) (hM : ∀ b, M b → b ∈ o.fp) : Lc K B F' H' σ (Γ.set k .no) := by
  obtain ⟨v, ev, ok, f⟩ := slot_own L hg
  have here : ∀ b u, ¬ B.M b → B.H b = some u → ¬ M b := fun b u nb q m => (f b (hM b m)).2.elim (fun z => by rw [z] at q; cases q) nb
  refine ⟨⟨L.ext.ff.trans e.ff, e.fh, fun b u nb q => e.hh b u (here b u nb q) (L.ext.hh b u nb q), fun b nb h1 h2 => ?_, fun b hb h => ?_⟩, by simp [L.len], fun q t hq => ?_, L.ap.put k rfl⟩
  · cases q : B.H b with
    | none => exact absurd q h2
    | some u => exact e.nwM b (here b u nb q) (L.ext.nwM b nb h1 h2) (by rw [L.ext.hh b u nb q]; exact fun z => nomatch z)
  · have := L.ext.th b hb h
    by_cases m : M b
    · exact e.th b m this
    · cases q : H b with
      | none => exact absurd q this
      | some u => rw [e.hh b u m q]; exact fun z => nomatch z
  · rcases get_set_slot hq with ⟨_, _, rfl⟩ | ⟨e1, hq'⟩
    · trivial
    · have old := L.ok q t hq'
      cases t with
      | no => trivial
      | val i x => obtain ⟨v, e2, r⟩ := old; exact ⟨v, e2, i.mono e.ff r⟩
      | own o2 =>
        obtain ⟨u, eu, ok2, f2⟩ := old
        have nM : ∀ b ∈ o2.fp, ¬ M b := fun b hb m => L.ap k q o o2 e1 hg hq' b (hM b m) hb
        exact ⟨u, eu, o2.stay e.ff (fun b hb w z => e.hh b w (nM b hb) z) ok2, fun b hb => ⟨e.nwM b (nM b hb) (f2 b hb).1 (o2.there ok2 b hb), (f2 b hb).2⟩⟩
end
noncomputable def EG (X : Cx) (Γ : List Slot) (e : Expr) (P : Ret → List Slot → Prop) (R : Exn → List Slot → Prop) : Prop :=
  ∀ B F H σ Q, Lc X.K B F H σ Γ → (∀ r v F' H' Γ', P r Γ' → Same F F' → Lc X.K B F' H' σ Γ' → ROk X.K (fun b => B.nw b ∧ Free Γ' b) F' H' v r → Q v H') →
    (∀ x u d F' H' Γ', R x Γ' → Same F F' → Lc X.K B F' H' σ Γ' → XOk X.K (fun b => B.nw b ∧ Free Γ' b) F' H' u d x → XW X u d σ H') → WE X e σ H Q
section
variable {X : Cx} {Γ : List Slot} {α β γ : Type} {i : Rep α} {j : Rep β} {pos p p2 : Pos} {e a b c : Expr} {es : List Expr} {E : SE} {rest body : List Stmt}
theorem VsOkO.step {F H F' H' : Hp} (e : Ext F H F' H') : ∀ {vs : List V} {A : List Slot}, VsOkO X.K F H vs A → VsOkO X.K F' H' vs A
  | [], [], _ => trivial
  | v :: vs, .val i x :: A, h => ⟨i.mono e.ff h.1, VsOkO.step e h.2⟩
  | v :: vs, .own o :: A, h => ⟨o.stay e.ff (fun b _ u q => e.hs _ _ q) h.1, fun b hb => e.nw b (h.2.1 b hb) (o.there h.1 b hb), VsOkO.step e h.2.2⟩
  | [], _ :: _, h => h.elim
  | _ :: _, [], h => h.elim
  | _ :: _, .no :: _, h => h.elim
end
noncomputable def SlotV (K : PySem.W.Frag) (F : Hp) (v : V) : Slot → Prop
  | .val i x => i.rp K F v x
  | _ => False
theorem SlotV.mono {K : PySem.W.Frag} {F F' : Hp} (s : Same F F') {v : V} {t : Slot} (h : SlotV K F v t) : SlotV K F' v t := by
  cases t with
  | val i x => exact i.mono s h
  | no => exact h.elim
  | own o => exact h.elim
noncomputable def FOk (K : PySem.W.Frag) (F : Hp) : List (Str × V) → List (Str × Slot) → Prop
  | [], [] => True
  | p :: fv, q :: fs => p.1 = q.1 ∧ SlotV K F p.2 q.2 ∧ FOk K F fv fs
  | _, _ => False
theorem FOk.mono {K : PySem.W.Frag} {F F' : Hp} (s : Same F F') : ∀ {fv : List (Str × V)} {fs : List (Str × Slot)}, FOk K F fv fs → FOk K F' fv fs
  | [], [], _ => trivial
  | p :: fv, q :: fs, h => ⟨h.1, h.2.1.mono s, FOk.mono s h.2.2⟩
  | [], _ :: _, h => h.elim
  | _ :: _, [], h => h.elim
theorem lookup_ne {A : Type u} {f g : Str} {x : A} {l : List (Str × A)} (h : ¬ f = g) : ((g, x) :: l).lookup f = l.lookup f := by
  have hne : (f == g) = false := by simpa using h
  simp [List.lookup, hne]
theorem lookup_eq {A : Type u} {f : Str} {x : A} {l : List (Str × A)} : ((f, x) :: l).lookup f = some x := by simp [List.lookup]
theorem FOk.no {K : PySem.W.Frag} {F : Hp} {f : Str} : ∀ {fv : List (Str × V)} {fs : List (Str × Slot)}, FOk K F fv fs → fs.lookup f = none → fv.lookup f = none
  | [], [], _, _ => rfl
  | [], _ :: _, h, _ => h.elim
  | _ :: _, [], h, _ => h.elim
  | (g, v) :: fv, (g', t) :: fs, ⟨e, r, tl⟩, h => by
    have e : g = g' := e
    subst e
    by_cases hf : f = g
    · subst hf
      rw [lookup_eq] at h
      cases h
    · rw [lookup_ne hf] at h ⊢
      exact FOk.no tl h
theorem FOk.len {K : PySem.W.Frag} {F : Hp} : ∀ {fv : List (Str × V)} {fs : List (Str × Slot)}, FOk K F fv fs → fv.length = fs.length
  | [], [], _ => rfl
  | _ :: _, _ :: _, h => by rw [List.length_cons, List.length_cons, FOk.len h.2.2]
  | [], _ :: _, h => h.elim
  | _ :: _, [], h => h.elim
theorem FOk.app {K : PySem.W.Frag} {F : Hp} {g : List (Str × V)} {g' : List (Str × Slot)} : ∀ {fv : List (Str × V)} {fs : List (Str × Slot)}, FOk K F fv fs → FOk K F g g' → FOk K F (fv ++ g) (fs ++ g')
  | [], [], _, h => h
  | _ :: _, _ :: _, h, h2 => ⟨h.1, h.2.1, FOk.app h.2.2 h2⟩
  | [], _ :: _, h, _ => h.elim
  | _ :: _, [], h, _ => h.elim
theorem putF_new {f : Str} {v : V} : ∀ {fv : List (Str × V)}, fv.lookup f = none → putF f v fv = fv ++ [(f, v)]
  | [], _ => rfl
  | (g, u) :: fv, h => by
    by_cases hf : f = g
    · subst hf; rw [lookup_eq] at h; cases h
    · rw [lookup_ne hf] at h
      show (if g = f then _ else _) = _
      rw [if_neg (Ne.symm hf), putF_new h]
      rfl
theorem FOk.put {K : PySem.W.Frag} {F : Hp} {f : Str} {v : V} {s : Slot} {fv : List (Str × V)} {fs : List (Str × Slot)} (h : FOk K F fv fs) (hn : fs.lookup f = none) (r : SlotV K F v s) : FOk K F (putF f v fv) (fs ++ [(f, s)]) := by
  rw [putF_new (h.no hn)]
  exact h.app ⟨rfl, r, trivial⟩
class Inst (α : Type) where
  cls : α → Str
  flds : α → List (Str × Slot)
noncomputable instance (priority := low) repInst {α : Type} [t : Inst α] : Rep α := ⟨fun K F v x => ∃ a C dx fv, v = .ref a ∧ PySem.W.nsIn K mainGlobals (t.cls x) = some (some (.ref C)) ∧ F a = some (.ins C dx fv) ∧ F dx = some (.own a) ∧ FOk K F fv (t.flds x),
  fun s ⟨a, C, dx, fv, e, n, h1, h2, r⟩ => ⟨a, C, dx, fv, e, n, s _ _ h1, s _ _ h2, r.mono s⟩⟩
end Tw
namespace Tw
open PySem PySem.Spec PyProof.Rows L2 TL
noncomputable def OSub (K : PySem.W.Frag) (n m : Str) (b : Bool) : Prop := ∀ C D, PySem.W.nsIn K mainGlobals n = some (some (.ref C)) → PySem.W.nsIn K mainGlobals m = some (some (.ref D)) → PySem.W.kitOne K (.ref C) (.ref D) = some b
theorem OSub.mk {K : PySem.W.Frag} {n m : Str} {b : Bool} {C D : Addr} (a1 : PySem.W.nsIn K mainGlobals n = some (some (.ref C))) (a2 : PySem.W.nsIn K mainGlobals m = some (some (.ref D))) (ht : PySem.W.typeIn K (.ref D) = some (.type "type")) (hd : PySem.W.hasDictIn K D = true)
    (h : PySem.W.subIn K (.ref C) (.ref D) = some b) (hb : C = D → b = true) : OSub K n m b := fun C' D' e1 e2 => by
  obtain rfl := ns_one a1 e1
  obtain rfl := ns_one a2 e2
  exact kitOf ht hd h fun e => hb (Value.ref.inj e)
structure Dm (K : PySem.W.Frag) (n m qual : Str) (st : Stmt) (ps : List Str) : Prop where
  ex : ∃ C f fd, PySem.W.nsIn K mainGlobals n = some (some (.ref C)) ∧ Meth K C m f ∧ Fun K m qual st f fd ∧ Binds K fd ps []
structure HasM (P : Program) (w : World) (K : PySem.W.Frag) (mg : Str → Option Value) (base : Heap) (k : Nat) (n m : Str) (ps : List Str) (S : Spec) : Prop where
  ex : ∀ C, PySem.W.nsIn K mainGlobals n = some (some (.ref C)) → ∃ f fd, Meth K C m f ∧ Binds K fd ps [] ∧ FnOk P w K mg base (L2.CX P w) k f fd ps (spOf K S)
section
variable {P : Program} {w : World} {K : PySem.W.Frag} {mg : Str → Option Value} {base : Heap}
theorem HasM.of {n m qual : Str} {st : Stmt} {N ps : List Str} {k : Nat} {S : Spec} (D : Dm K n m qual st ps) (sc : FnScope N ps (defScope st)) (len : ∀ A Q R, S A Q R → A.length = ps.length)
    (body : ∀ (f : Addr) (cdv : Value) (A : Around) (outer : List Env) (s : Shared) (H : Hp) (E : XK), Room k (A.deeper (envOfC qual (defScope st) s.heap.objs.size f cdv)) → ∀ Γ Q R, S Γ Q R →
      ST (cxOf (L2.CX P w) P w K mg base N qual (defScope st) f cdv A outer s H E) (defBody st) (Γ ++ List.replicate (N.length - ps.length) .no) (finX Q R)) :
    HasM P w K mg base (k + 1) n m ps S := by
  obtain ⟨C0, f, fd, hC0, hM, F, hb⟩ := D.ex
  refine ⟨fun C hC => ⟨f, fd, by obtain rfl := ns_one hC0 hC; exact hM, hb, F.okX sc (fun vs H Q E ⟨F0, A, s, r, ap, h⟩ => ?_) (fun cdv A outer s H vs Q E hr h => ?_)⟩⟩
  · rw [r.len]; exact len _ _ _ h
  · obtain ⟨F0, A0, sm, r, ap, h⟩ := h
    refine ⟨_, psW, ?_⟩
    have hl := len _ _ _ h
    have L0 := lc_start (K := K) sm r ap (N.length - ps.length)
    have L1 : Lc K ⟨F0, H, MA A0⟩ F0 H (L2.start N vs) (A0 ++ List.replicate (N.length - ps.length) .no) := by
      unfold L2.start
      rw [show vs.length = ps.length from r.len.trans hl]
      exact L0
    refine body f cdv A outer s H E hr A0 _ _ h ⟨F0, H, MA A0⟩ F0 H _ _ L1 ⟨fun F' H' σ' Γ' _ hq L => ?_, fun r v F' H' hq ex ok => hq v F' H' ex ok, fun _ _ _ _ _ z => z.elim, fun _ _ _ _ _ z => z.elim, fun F1 H1 σ' Γ' x u d _ hq L ok => ?_⟩
    · exact hq .non F' H' L.ext rfl
    · exact XW.of (L2.takes_of rfl rfl rfl rfl) (hq u d F1 H1 L.ext (ok.imp fun b h => h.1))
end
section
variable {X : Cx} {Γ : List Slot} {α β γ : Type} {i : Rep α} {j : Rep β} {pos p p2 : Pos} {e a b c : Expr} {es : List Expr} {E : SE} {rest body : List Stmt}
noncomputable def CInit (K : PySem.W.Frag) (n : Str) : Prop := ∀ C f, PySem.W.nsIn K mainGlobals n = some (some (.ref C)) → PySem.W.findIn K (.ref C) "__init__" = some (some (.ref f)) →
  PySem.W.specialIn K (.ref C) "__getattribute__" = some (some (.builtin "type.__getattribute__")) ∧ PySem.W.readsIn K C (.type "type") = true ∧ PySem.W.findCls K (.ref C) (.type "type") "__init__" = some (.val (.ref f))
theorem CInit.mk {K : PySem.W.Frag} {n : Str} {C f : Addr} (a : PySem.W.nsIn K mainGlobals n = some (some (.ref C))) (b : PySem.W.findIn K (.ref C) "__init__" = some (some (.ref f))) (c1 : PySem.W.specialIn K (.ref C) "__getattribute__" = some (some (.builtin "type.__getattribute__"))) (c2 : PySem.W.readsIn K C (.type "type") = true)
    (c3 : PySem.W.findCls K (.ref C) (.type "type") "__init__" = some (.val (.ref f))) : CInit K n := fun C' f' e1 e2 => by
  obtain rfl := ns_one a e1
  rw [b] at e2
  cases e2
  exact ⟨c1, c2, c3⟩
end
end Tw
namespace Tw
open PySem PySem.Spec PyProof.Rows L2 TL
noncomputable def HetOk (K : PySem.W.Frag) (F : Hp) : List V → List Slot → Prop
  | [], [] => True
  | v :: vs, s :: A => SlotV K F v s ∧ HetOk K F vs A
  | _, _ => False
theorem HetOk.mono {K : PySem.W.Frag} {F F' : Hp} (s : Same F F') : ∀ {vs : List V} {A : List Slot}, HetOk K F vs A → HetOk K F' vs A
  | [], [], _ => trivial
  | v :: vs, t :: A, h => ⟨h.1.mono s, HetOk.mono s h.2⟩
  | [], _ :: _, h => h.elim
  | _ :: _, [], h => h.elim
theorem HetOk.len {K : PySem.W.Frag} {F : Hp} : ∀ {vs : List V} {A : List Slot}, HetOk K F vs A → vs.length = A.length
  | [], [], _ => rfl
  | v :: vs, t :: A, h => by rw [List.length_cons, List.length_cons, HetOk.len h.2]
  | [], _ :: _, h => h.elim
  | _ :: _, [], h => h.elim
theorem HetOk.set {K : PySem.W.Frag} {F : Hp} {v : V} {s : Slot} (r : SlotV K F v s) : ∀ {vs : List V} {A : List Slot} (k : Nat), HetOk K F vs A → HetOk K F (vs.set k v) (A.set k s)
  | [], [], _, _ => trivial
  | _ :: _, _ :: _, 0, h => ⟨r, h.2⟩
  | _ :: _, _ :: _, k + 1, h => ⟨h.1, HetOk.set r k h.2⟩
  | [], _ :: _, _, h => h.elim
  | _ :: _, [], _, h => h.elim
class Het (α : Type) where
  els : α → List Slot
noncomputable instance (priority := low) repHet {α : Type} [t : Het α] : Rep α := ⟨fun K F v x => ∃ a vs, v = .ref a ∧ F a = some (.lst vs) ∧ HetOk K F vs (t.els x), fun s ⟨a, vs, e, h, r⟩ => ⟨a, vs, e, s _ _ h, r.mono s⟩⟩
end Tw
namespace Tw
open PySem PySem.Spec PyProof.Rows L2 TL
section
variable {X : Cx} {Γ : List Slot} {α β γ : Type} {i : Rep α} {j : Rep β} {pos p p2 : Pos} {e a b c : Expr} {es : List Expr} {E : SE} {rest body : List Stmt}
theorem ev_of_en_aux {B : Bs} {F H F' H' : Hp} {σ : L2.St} {Q : VK} {xs : List α} {v : V} {G : List α → Prop} (hG : G xs) (L : Lc X.K B F H σ Γ) (ex : Ext F H F' H') (r1 : ROk X.K (Nw H) F' H' v (.new i xs)) (q : ∀ (r : Ret) (v : V) (F' H' : Hp), (∃ xs, G xs ∧ r = .val repList xs) → Ext F H F' H' → ROk X.K (Nw H) F' H' v r → Q v H') : Q v H' := by
  obtain ⟨a, vs, rfl, ha, fa, h', p⟩ := r1
  have sm : Same F' (upd F' a (.lst vs)) := fun b u e => by rw [upd_ne (ne_of_none e fa)]; exact e
  refine q (.val repList xs) (.ref a) (upd F' a (.lst vs)) H' ⟨xs, hG, rfl⟩ ⟨ex.ff.trans sm, fun b u e => ?_, ex.hh, fun b _ h1 h2 => ?_, fun _ z => z.elim⟩ ⟨a, vs, rfl, upd_same, Paired.mapP p fun _ _ q => i.mono sm q⟩
  · by_cases hb : b = a
    · subst hb; rw [upd_same] at e; rw [← e]; exact h'
    · rw [upd_ne hb] at e; exact ex.fh _ _ e
  · rw [upd_ne (fun z => by subst z; exact h2 ha)]; exact ex.nw b h1 h2
theorem exv_of_exn {G : List α → Prop} (h : EX X Γ e (fun r => ∃ xs, G xs ∧ r = .new i xs)) : EX X Γ e (fun r => ∃ xs, G xs ∧ r = .val repList xs) := fun B F H σ Q L q =>
  h B F H σ _ L fun r v F1 H1 er e1 r1 => by
    obtain ⟨xs, hG, rfl⟩ := er
    refine ev_of_en_aux hG L e1 r1 q
end
end Tw
namespace Tw
open PySem PySem.Spec PyProof.Rows L2 TL
theorem call_list_text {X : Cx} (hcalm : X.calm = true) : CallR X (.type "list") (fun xs H Q => ∃ x : Tx, xs = [.str (sx x)] ∧ x.length ≤ sizeLine ∧ ∀ l, H l = none → Q (.ref l) (upd H l (.lst (x.map fun c => V.str (sx [c]))))) := by
  intro pins s σ H xs us Q I r h
  obtain ⟨x, rfl, hz, q⟩ := h
  obtain ⟨u, rfl, t, rfl⟩ := vals1 r
  have hsz : (sx x).cps.size = x.length := by simp [sx]
  refine PySem.call_list_str (I.ok.hd hcalm) (sx x) t (fun h' tk acc' c' hk e hi => ?_) (by rw [hsz]; exact hz)
  obtain ⟨hs, hi⟩ := hi
  have hv : Vals (x.map fun c => V.str (sx [c])) acc'.toList := by
    have key : ∀ (l : Tx) (vs : List Value), vs.length = l.length → (∀ (j : Nat) (v : Value), vs[j]? = some v → ∃ (c : Nat) (u : Tok), l[j]? = some c ∧ v = Value.str ⟨#[c]⟩ u) → Vals (l.map fun c => V.str (sx [c])) vs := by
      intro l
      induction l with
      | nil =>
        intro vs h1 _
        match vs, h1 with
        | [], _ => exact .nil
      | cons c l ih =>
        intro vs h1 h2
        match vs, h1 with
        | v :: vs, h1 =>
          obtain ⟨c', u, e1, e2⟩ := h2 0 v rfl
          have : c = c' := Option.some.inj e1
          subst this
          exact .cons ⟨u, e2⟩ (ih vs (by simpa using h1) fun j v' hj => h2 (j + 1) v' hj)
    refine key x acc'.toList (by rw [Array.length_toList, hs, hsz]) fun j v hj => ?_
    obtain ⟨c, u, e1, e2⟩ := hi j v (by rw [← Array.getElem?_toList]; exact hj)
    refine ⟨c, u, ?_, e2⟩
    rw [← Array.getElem?_toList] at e1
    exact e1
  refine ⟨.ref s.heap.objs.size, _, I.laid (t' := tk) hk (Nat.le_refl _) (show ObjOk X.prog X.w _ h' _ (.lst _) from ⟨by rw [List.length_map]; exact hz, acc'.toList, c', hv, by rw [Array.toArray_toList]; exact e⟩), rfl, q _ (I.hok.fresh (Nat.le_refl _))⟩
section
variable {X : Cx} {Γ : List Slot} {α β γ : Type} {i : Rep α} {j : Rep β} {pos p p2 : Pos} {e a b c : Expr} {es : List Expr} {E : SE} {rest body : List Stmt}
theorem en_listS {x : Tx} (hm : X.mg "list" = none) (h : EV X Γ e x) (hz : x.length ≤ sizeLine) (hg : autoParam (Gl X "list") aRfl) (hcalm : autoParam (X.calm = true) aRfl) (hs : autoParam (starEach [e] X.env = (false, eval e X.env) :: starEach [] X.env) aStar) (hpl : autoParam ((backTo pos (starEach [] X.env)).any (·.1) = false) aPl) :
    EN X Γ (.Call (.Name "list" p) [e] [] pos) (x.map fun c => ([c] : Tx)) := fun B F H σ Q L q =>
  WE.of (pe_callTy (call_list_text hcalm) hg hm (by decide +kernel) (pa_cons peW pa_nil hs) (by decide) (by decide) hs hpl) (h B F H σ _ L fun v F1 H1 e1 r1 => by
    obtain rfl : v = .str (sx x) := r1
    refine ⟨x, rfl, hz, fun p hp => ?_⟩
    have s1 := (L.step e1).same
    refine q p _ F1 _ (e1.trans (Ext.apart s1 hp)) (e1.hs.free hp) (s1.free hp) upd_same ?_
    have pr : ∀ y : Tx, Paired (fun u t => repTx.rp X.K F1 u t) (y.map fun c => V.str (sx [c])) (y.map fun c => ([c] : Tx)) := fun y => by
      induction y with
      | nil => exact .nil
      | cons c r ih => exact .cons rfl ih
    exact pr x)
end
end Tw
namespace Tw
open PySem PySem.Spec PyProof.Rows L2 TL
structure Dic (κ α : Type) where
  l : List (κ × α)
section
variable {κ : Type} [DecidableEq κ] {α : Type}
noncomputable def look (l : List (κ × α)) (k : κ) : Option α := (l.find? fun p => decide (p.1 = k)).map (·.2)
noncomputable def put (l : List (κ × α)) (k : κ) (v : α) : List (κ × α) := if (l.any fun p => decide (p.1 = k)) = true then l.map (fun p => if p.1 = k then (p.1, v) else p) else l ++ [(k, v)]
theorem look_nil {k : κ} : look ([] : List (κ × α)) k = none := rfl
theorem look_pos {p : κ × α} {r : List (κ × α)} {k : κ} (e : p.1 = k) : look (p :: r) k = some p.2 := by simp [look, List.find?_cons, e]
theorem look_neg {p : κ × α} {r : List (κ × α)} {k : κ} (e : ¬ p.1 = k) : look (p :: r) k = look r k := by simp [look, List.find?_cons, e]
theorem look_any (k : κ) : ∀ l : List (κ × α), (l.any fun p => decide (p.1 = k)) = (look l k).isSome
  | [] => rfl
  | p :: r => by
    rw [List.any_cons]
    by_cases e : p.1 = k
    · simp only [look_pos e, decide_eq_true e, Bool.true_or, Option.isSome_some]
    · rw [look_neg e, decide_eq_false e, Bool.false_or]; exact look_any k r
theorem look_map (k j : κ) (y : α) : ∀ l : List (κ × α), look (l.map fun p => if p.1 = k then (p.1, y) else p) j = (look l j).map fun x => if j = k then y else x
  | [] => rfl
  | p :: r => by
    have ih := look_map k j y r
    rw [List.map_cons]
    by_cases h : p.1 = k
    · rw [if_pos h]
      by_cases e : p.1 = j
      · rw [look_pos (p := (p.1, y)) e, look_pos e, Option.map_some, if_pos (e.symm.trans h)]
      · rw [look_neg (p := (p.1, y)) e, look_neg e, ih]
    · rw [if_neg h]
      by_cases e : p.1 = j
      · rw [look_pos e, look_pos e, Option.map_some, if_neg fun z => h (e.trans z)]
      · rw [look_neg e, look_neg e, ih]
theorem look_snoc (k j : κ) (y : α) : ∀ l : List (κ × α), look l k = none → look (l ++ [(k, y)]) j = if j = k then some y else look l j
  | [], _ => by
    rw [List.nil_append]
    by_cases e : k = j
    · rw [if_pos e.symm]; exact look_pos (p := (k, y)) e
    · rw [if_neg fun z => e z.symm]; exact look_neg (p := (k, y)) e
  | p :: r, hn => by
    have hk : ¬ p.1 = k := fun z => by rw [look_pos z] at hn; cases hn
    rw [look_neg hk] at hn
    have ih := look_snoc k j y r hn
    rw [List.cons_append]
    by_cases e : p.1 = j
    · rw [look_pos e, look_pos e, if_neg fun z => hk (e.trans z)]
    · rw [look_neg e, look_neg e, ih]
theorem look_put (l : List (κ × α)) (k j : κ) (y : α) : look (put l k y) j = if j = k then some y else look l j := by
  unfold put
  by_cases a : (l.any fun p => decide (p.1 = k)) = true
  · rw [if_pos a, look_map]
    rw [look_any] at a
    by_cases e : j = k
    · subst e
      obtain ⟨x, hx⟩ := Option.isSome_iff_exists.mp a
      rw [hx, Option.map_some, if_pos rfl]; simp
    · rw [if_neg e]
      cases look l j with
      | none => rfl
      | some x => simp [e]
  · rw [if_neg a]
    refine look_snoc k j y l ?_
    rw [look_any] at a
    cases q : look l k with
    | none => rfl
    | some x => rw [q] at a; exact (a rfl).elim
theorem put_len (l : List (κ × α)) (k : κ) (v : α) : (put l k v).length ≤ l.length + 1 := by
  unfold put
  split
  · rw [List.length_map]; omega
  · rw [List.length_append, List.length_cons, List.length_nil]; omega
theorem put_keys {l : List (κ × α)} {k : κ} {v : α} : (put l k v).map (·.1) = if (look l k).isSome then l.map (·.1) else l.map (·.1) ++ [k] := by
  unfold put
  rw [look_any]
  cases (look l k).isSome with
  | true =>
    rw [if_pos rfl, if_pos rfl, List.map_map]
    refine List.map_congr_left fun p _ => ?_
    show (if p.1 = k then (p.1, v) else p).1 = p.1
    split <;> rfl
  | false => rw [if_neg (by decide), if_neg (by decide), List.map_append]; rfl
theorem look_mem {l : List (κ × α)} {k : κ} {v : α} (h : look l k = some v) : (k, v) ∈ l := by
  induction l with
  | nil => cases h
  | cons p r ih =>
    by_cases e : p.1 = k
    · rw [look_pos e] at h
      obtain ⟨a, b⟩ := p
      cases Option.some.inj h
      cases (show a = k from e)
      exact List.mem_cons_self ..
    · rw [look_neg e] at h
      exact List.mem_cons_of_mem _ (ih h)
theorem look_none {l : List (κ × α)} {k : κ} : look l k = none ↔ k ∉ l.map (·.1) := by
  induction l with
  | nil => simp [look_nil]
  | cons p r ih =>
    by_cases e : p.1 = k
    · rw [look_pos e]; simp [e]
    · rw [look_neg e, ih, List.map_cons, List.mem_cons]
      constructor
      · rintro h (z | z)
        · exact e z.symm
        · exact h z
      · exact fun h z => h (.inr z)
theorem look_of_mem {l : List (κ × α)} {k : κ} {v : α} (nd : (l.map (·.1)).Nodup) (h : (k, v) ∈ l) : look l k = some v := by
  induction l with
  | nil => cases h
  | cons p r ih =>
    rw [List.map_cons, List.nodup_cons] at nd
    rcases List.mem_cons.mp h with e | h
    · subst e; exact look_pos rfl
    · rw [look_neg fun z => nd.1 (z ▸ List.mem_map.mpr ⟨_, h, rfl⟩)]
      exact ih nd.2 h
theorem put_nodup {l : List (κ × α)} {k : κ} {v : α} (nd : (l.map (·.1)).Nodup) : ((put l k v).map (·.1)).Nodup := by
  rw [put_keys]
  cases h : look l k with
  | some x => exact nd
  | none =>
    show (l.map (·.1) ++ [k]).Nodup
    rw [List.nodup_append]
    refine ⟨nd, List.nodup_cons.mpr ⟨by simp, List.nodup_nil⟩, fun a ha b hb => ?_⟩
    rw [List.mem_singleton] at hb
    subst hb
    exact fun z => look_none.mp h (z ▸ ha)
theorem valV_inj {μ : Type} [DecidableEq μ] {e : κ → μ} (inj : ∀ x y, e x = e y → x = y) (k : κ) : ∀ kvs : List (κ × V), valV (kvs.map fun p => (e p.1, p.2)) (e k) = valV kvs k
  | [] => rfl
  | p :: r => by
    rw [List.map_cons]
    by_cases h : p.1 = k
    · rw [valV_pos (p := (e p.1, p.2)) (congrArg e h), valV_pos h]
    · rw [valV_neg (p := (e p.1, p.2)) fun z => h (inj _ _ z), valV_neg h, valV_inj inj k r]
theorem putK_inj {μ : Type} [DecidableEq μ] {e : κ → μ} (inj : ∀ x y, e x = e y → x = y) (k : κ) (v : V) (kvs : List (κ × V)) : putK (kvs.map fun p => (e p.1, p.2)) (e k) v = (putK kvs k v).map fun p => (e p.1, p.2) := by
  unfold putK
  rw [List.any_map]
  have : (fun p : κ × V => decide (p.1 = k)) = ((fun kv : μ × V => decide (kv.1 = e k)) ∘ fun p : κ × V => (e p.1, p.2)) := by
    funext p
    exact decide_eq_decide.mpr ⟨fun z => congrArg e z, fun z => inj _ _ z⟩
  rw [← this]
  split
  · rw [List.map_map, List.map_map]
    refine List.map_congr_left fun p _ => ?_
    show (if e p.1 = e k then (e p.1, v) else (e p.1, p.2)) = (fun p : κ × V => (e p.1, p.2)) (if p.1 = k then (p.1, v) else p)
    by_cases h : p.1 = k
    · rw [if_pos h, if_pos (congrArg e h)]
    · rw [if_neg h, if_neg fun z => h (inj _ _ z)]
  · rw [List.map_append]; rfl
end
class DKey (κ : Type) [i : Rep κ] [DecidableEq κ] where
  ho : List (κ × V) → HO
  empty : ∀ (X : Cx) (pos : Pos), PE X (.Dict [] [] pos) (fun _ H Q => ∀ p, H p = none → Q (.ref p) (upd H p (ho [])))
  get : ∀ {K : PySem.W.Frag} {F H : Hp} {a : Addr} {v : V} {x : κ} {kvs : List (κ × V)}, Same F H → H a = some (ho kvs) → i.rp K F v x → DGet H a v (valV kvs x)
  put : ∀ {K : PySem.W.Frag} {F H : Hp} {a : Addr} {y : V} {x : κ} {kvs : List (κ × V)} {v : V}, Same F H → H a = some (ho kvs) → i.rp K F y x → kvs.length < sizeLine → DPut H a y v (upd H a (ho (putK kvs x v)))
  isD : ∀ {H : Hp} {a : Addr} {kvs : List (κ × V)}, H a = some (ho kvs) → IsD H a
noncomputable def hoK {κ : Type} (e : κ → Key) (kvs : List (κ × V)) : HO := .dK (kvs.map fun p => (e p.1, p.2))
noncomputable def hoT {κ : Type} (e : κ → List Key) (kvs : List (κ × V)) : HO := .dT (kvs.map fun p => (e p.1, p.2))
noncomputable def DKey.ofK {κ : Type} [i : Rep κ] [DecidableEq κ] (e : κ → Key) (inj : ∀ x y, e x = e y → x = y) (h : ∀ {K F v x}, i.rp K F v x → v = kV (e x)) : DKey κ :=
  ⟨hoK e, fun X pos => pe_dnewK, fun {K F H a v x kvs} s ha r => by
    rw [h r, ← valV_inj inj x kvs]; exact DGet.k ha, fun {K F H a y x kvs v} s ha r hz => by
    rw [h r]
    unfold hoK
    rw [← putK_inj inj]
    exact DPut.k ha (by rw [List.length_map]; exact hz), fun ha => .inl ⟨_, .inl ha⟩⟩
noncomputable def DKey.ofT {κ : Type} [i : Rep κ] [DecidableEq κ] (e : κ → List Key) (inj : ∀ x y, e x = e y → x = y) (h : ∀ {K F v x}, i.rp K F v x → ∃ b, v = .ref b ∧ F b = some (.tup ((e x).map kV))) : DKey κ :=
  ⟨hoT e, fun X pos => pe_dnewT, fun {K F H a v x kvs} s ha r => by
    obtain ⟨b, rfl, hb⟩ := h r
    rw [← valV_inj inj x kvs]; exact DGet.t ha (s _ _ hb), fun {K F H a y x kvs v} s ha r hz => by
    obtain ⟨b, rfl, hb⟩ := h r
    unfold hoT
    rw [← putK_inj inj]
    exact DPut.t ha (s _ _ hb) (by rw [List.length_map]; exact hz), fun ha => .inr ⟨_, .inl ha⟩⟩
theorem inr_sx (x y : Tx) (h : (Sum.inr (sx x) : Key) = Sum.inr (sx y)) : x = y := sx_inj (Sum.inr.inj h)
noncomputable instance dkTx : DKey Tx := .ofK (fun x => .inr (sx x)) inr_sx fun {_ _ v x} h => h
noncomputable instance dkInt : DKey Int := .ofK (fun x => .inl x) (fun _ _ h => Sum.inl.inj h) fun {_ _ v x} h => h
class KPart (α : Type) [i : Rep α] where
  en : α → Key
  inj : ∀ x y, en x = en y → x = y
  rp : ∀ {K F v x}, i.rp K F v x → v = kV (en x)
noncomputable instance : KPart Tx := ⟨fun x => .inr (sx x), inr_sx, fun {_ _ v x} h => h⟩
noncomputable instance : KPart Int := ⟨fun x => .inl x, fun _ _ h => Sum.inl.inj h, fun {_ _ v x} h => h⟩
noncomputable instance dkPair {α β : Type} [i : Rep α] [j : Rep β] [DecidableEq α] [DecidableEq β] [p : KPart α] [q : KPart β] : DKey (α × β) :=
  .ofT (fun x => [p.en x.1, q.en x.2]) (fun x y h => by
    obtain ⟨h1, h2⟩ := List.cons.inj h
    obtain ⟨h2, _⟩ := List.cons.inj h2
    exact Prod.ext (p.inj _ _ h1) (q.inj _ _ h2)) fun {K F v x} ⟨a, u, w, e, h, r1, r2⟩ => ⟨a, e, by rw [h, p.rp r1, q.rp r2]; rfl⟩
noncomputable instance dkTup {α : Type} [i : Rep α] [DecidableEq α] [p : KPart α] : DKey (Tup α) :=
  .ofT (fun x => x.l.map p.en) (fun x y h => by
    cases x; cases y
    have : ∀ l m : List α, l.map p.en = m.map p.en → l = m := by
      intro l
      induction l with
      | nil => intro m h; cases m with | nil => rfl | cons _ _ => cases h
      | cons a l ih =>
        intro m h
        cases m with
        | nil => cases h
        | cons b m =>
          obtain ⟨h1, h2⟩ := List.cons.inj h
          rw [p.inj _ _ h1, ih m h2]
    exact congrArg Tup.mk (this _ _ h)) fun {K F v x} ⟨a, vs, e, h, pr⟩ => ⟨a, e, by
      rw [h]
      have : ∀ {vs : List V} {l : List α}, Paired (fun u x => i.rp K F u x) vs l → vs = (l.map p.en).map kV := by
        intro vs l h
        induction h with
        | nil => rfl
        | cons r _ ih => rw [List.map_cons, List.map_cons, ← ih, p.rp r]
      rw [this pr]⟩
section
variable {κ α : Type} [ik : Rep κ] [DecidableEq κ] [dk : DKey κ] {i : Rep α}
noncomputable abbrev DRel (i : Rep α) (K : PySem.W.Frag) (F : Hp) (kvs : List (κ × V)) (l : List (κ × α)) : Prop := Paired (fun (p : κ × V) (q : κ × α) => p.1 = q.1 ∧ i.rp K F p.2 q.2) kvs l
theorem DRel.val {K : PySem.W.Frag} {F : Hp} {k : κ} : ∀ {kvs : List (κ × V)} {l : List (κ × α)}, DRel i K F kvs l → (look l k = none → valV kvs k = none) ∧ ∀ y, look l k = some y → ∃ v, valV kvs k = some v ∧ i.rp K F v y
  | _, _, .nil => ⟨fun _ => rfl, fun y h => by cases h⟩
  | _, _, .cons (a := p) (b := q) r t => by
    have ih := DRel.val (k := k) t
    by_cases e : p.1 = k
    · rw [look_pos (r.1.symm.trans e), valV_pos e]
      exact ⟨fun z => (nomatch z), fun y h => ⟨_, rfl, by cases Option.some.inj h; exact r.2⟩⟩
    · rw [look_neg fun z => e (r.1.trans z), valV_neg e]
      exact ih
theorem DRel.put {K : PySem.W.Frag} {F : Hp} {k : κ} {v : V} {y : α} {kvs : List (κ × V)} {l : List (κ × α)} (h : DRel i K F kvs l) (r : i.rp K F v y) : DRel i K F (putK kvs k v) (put l k y) := by
  have e1 : (kvs.any fun kv => decide (kv.1 = k)) = l.any fun p => decide (p.1 = k) := by
    clear r
    induction h with
    | nil => rfl
    | cons r _ ih => rw [List.any_cons, List.any_cons, ih, r.1]
  unfold putK Tw.put
  rw [e1]
  split
  · clear e1
    have go : ∀ {ks : List (κ × V)} {ls : List (κ × α)}, DRel i K F ks ls → DRel i K F (ks.map fun kv => if kv.1 = k then (kv.1, v) else kv) (ls.map fun p => if p.1 = k then (p.1, y) else p) := by
      intro ks ls h
      induction h with
      | nil => exact .nil
      | @cons p q _ _ r' _ ih =>
        refine .cons ?_ ih
        show ((if p.1 = k then (p.1, v) else p).1 = (if q.1 = k then (q.1, y) else q).1 ∧ i.rp K F (if p.1 = k then (p.1, v) else p).2 (if q.1 = k then (q.1, y) else q).2)
        by_cases z : p.1 = k
        · rw [if_pos z, if_pos (r'.1.symm.trans z)]; exact ⟨r'.1, r⟩
        · rw [if_neg z, if_neg fun z2 => z (r'.1.trans z2)]; exact r'
    exact go h
  · exact papp h (.cons ⟨rfl, r⟩ .nil)
noncomputable instance repDic {α : Type} [i : Rep α] : Rep (Dic κ α) := ⟨fun K F v x => ∃ a kvs, v = .ref a ∧ F a = some (dk.ho kvs) ∧ DRel i K F kvs x.l,
  fun s ⟨a, kvs, e, h, p⟩ => ⟨a, kvs, e, s _ _ h, Paired.mapP p fun _ _ q => ⟨q.1, i.mono s q.2⟩⟩⟩
noncomputable def ownD (κ : Type) {α : Type} [ik : Rep κ] [DecidableEq κ] [dk : DKey κ] (i : Rep α) (a : Addr) (l : List (κ × α)) : Own where
  fp := [a]
  root := .ref a
  ok := fun K F H v => v = .ref a ∧ ∃ kvs, H a = some (dk.ho kvs) ∧ DRel i K F kvs l
  stay := fun s k ⟨e, vs, h, p⟩ => ⟨e, vs, k a (List.mem_singleton.mpr rfl) _ h, Paired.mapP p fun _ _ q => ⟨q.1, i.mono s q.2⟩⟩
  there := fun ⟨_, vs, h, _⟩ b hb z => by rw [List.mem_singleton.mp hb, h] at z; cases z
  rt := fun h => h.1
variable {X : Cx} {Γ : List Slot} {pos p p2 : Pos} {e a b c : Expr} {es : List Expr} {E : SE} {rest : List Stmt}
theorem exo_dict (κ : Type) {α : Type} [ik : Rep κ] [DecidableEq κ] [dk : DKey κ] (i : Rep α) : EX X Γ (.Dict [] [] pos) (fun r => r = .own fun o => ∃ a, o = ownD κ i a []) := fun B F H σ Q L q =>
  WE.of (dk.empty X pos) fun p hp => q _ (.ref p) F _ rfl (Ext.apart L.same hp) ⟨ownD κ i p [], ⟨p, rfl⟩, fun b hb => by rw [List.mem_singleton.mp hb]; exact ⟨hp, L.same.free hp⟩, rfl, [], upd_same, .nil⟩
theorem st_setD (κ : Type) {α : Type} [ik : Rep κ] [DecidableEq κ] [dk : DKey κ] (i : Rep α) (k : Nat) {n : Str} {p3 spos : Pos} (hr : ∀ ad, ST X rest (Γ.set k (.own (ownD κ i ad []))) E) (hN : X.N.Nodup) (hi : autoParam (X.N[k]? = some n) aRfl) (hx : autoParam (L2.Loc X.env.scope n) aLoc)
    (hs : autoParam (swapsWith (.Dict [] [] pos) (some (.Name n p3)) spos.line X.env = pure false) aRfl) (hf : autoParam (X.fn n = true ∨ X.env.scope.names.lookup n = some .local) Tw.aFn) : ST X (.Assign [.Name n p3] (.Dict [] [] pos) spos :: rest) Γ E :=
  st_setO k (exo_dict κ i) (fun o ⟨ad, e⟩ => e ▸ hr ad) hN hi hx hs hf
theorem st_dput {k : Nat} (hr0 : Room k X.A) (m : Nat) {n : Str} {ad : Addr} {l : List (κ × α)} {x : κ} {y : α} {sp : Pos} (he : EV X Γ e y) (hi : EV X Γ a x) (hz : l.length < sizeLine) (hr : ST X rest (Γ.set m (.own (ownD κ i ad (put l x y)))) E) (hgm : autoParam (Γ[m]? = some (.own (ownD κ i ad l))) aRfl) (hN : autoParam (X.N[m]? = some n) aRfl)
    (hv : autoParam (Vis X.env.scope n) aVis) (hdd : autoParam ((n == ("__debug__" : Str)) = false) aDec) (hcd : autoParam ((n == ("__classdict__" : Str)) = false) aDec)
    (hs : autoParam (swapsWith e (some (.Subscript (.Name n p) a sp)) pos.line X.env = pure false) aRfl) :
    ST X (.Assign [.Subscript (.Name n p) a sp] e pos :: rest) Γ E := fun B F H σ D L ed => by
  obtain ⟨v0, ea, ⟨rfl, _⟩, _⟩ := slot_own L hgm
  refine WP.cons (ps_dput (by have := hr0.units; omega) (pe_var hN hv hdd hcd) peW peW hs) (he B F H σ _ L fun v F1 H1 e1 r1 => ⟨_, ea, hi B F1 H1 σ _ (L.step e1) fun u F2 H2 e2 r2 => ?_⟩)
  have L2 := L.step (e1.trans e2)
  obtain ⟨v2, ev2, ⟨_, kvs, ha, pr⟩, _⟩ := slot_own L2 hgm
  have hl : kvs.length < sizeLine := by rw [Paired.length pr]; exact hz
  refine ⟨ad, _, rfl, dk.put L2.same ha r2 hl, hr B F2 _ σ D (L2.updO hgm ea (fun b w hb q => ?_) (fun b hb => ?_) (fun b hb => .inl hb) ⟨rfl, _, upd_same, DRel.put pr (i.mono e2.ff r1)⟩) (ed.weak (e1.trans e2).ff)⟩
  · rw [upd_ne fun z => hb (List.mem_singleton.mpr z)]; exact q
  · rw [List.mem_singleton.mp hb, upd_same]; exact fun z => nomatch z
end
section
variable {X : Cx} {Γ : List Slot} {α : Type} {i : Rep α} {pos p p2 : Pos} {e a b c : Expr} {es : List Expr} {E : SE} {rest : List Stmt}
class FlatV (α : Type) [i : Rep α] : Prop where
  fl : ∀ {K F v x}, i.rp K F v x → flatB v = true
  inj : ∀ {K F F' v w} {x : α}, i.rp K F v x → i.rp K F' w x → v = w
noncomputable instance : FlatV Tx := ⟨fun {_ _ v x} h => by obtain rfl : v = .str (sx x) := h; rfl, fun {_ _ _ v w x} h1 h2 => by obtain rfl : v = .str (sx x) := h1; obtain rfl : w = .str (sx x) := h2; rfl⟩
noncomputable instance : FlatV Int := ⟨fun {_ _ v x} h => by obtain rfl : v = .int x := h; rfl, fun {_ _ _ v w x} h1 h2 => by obtain rfl : v = .int x := h1; obtain rfl : w = .int x := h2; rfl⟩
end
end Tw
namespace Tw
open PySem PySem.Spec PyProof.Rows L2 TL
class HetT (α : Type) where
  els : α → List Slot
noncomputable instance (priority := low) repHetT {α : Type} [t : HetT α] : Rep α := ⟨fun K F v x => ∃ a vs, v = .ref a ∧ F a = some (.tup vs) ∧ HetOk K F vs (t.els x), fun s ⟨a, vs, e, h, r⟩ => ⟨a, vs, e, s _ _ h, r.mono s⟩⟩
section
variable {X : Cx} {Γ : List Slot} {α β γ δ : Type} {i : Rep α} {j : Rep β} {l : Rep γ} {pos p p2 : Pos} {e a b c : Expr} {es : List Expr} {E : SE} {rest body : List Stmt}
theorem st_unpack2 (k1 k2 : Nat) {n1 n2 : Str} {x : α × β} {q1 q2 tp : Pos} {kk} (he : EV X Γ e x) (hr : ST X rest ((Γ.set k1 (.val i x.1)).set k2 (.val j x.2)) E)
    (hg : PG X (.Tuple [.Name n1 q1, .Name n2 q2] kk tp) (gTup X.K 2 (gCons (gName k1) (gCons (gName k2) gNil))))
    (hs : autoParam (swapsWithSole [.Tuple [.Name n1 q1, .Name n2 q2] kk tp] e pos.line X.env = pure false) aRfl) (hw : autoParam (swappedStores [.Tuple [.Name n1 q1, .Name n2 q2] kk tp] e X.env = pure none) aRfl)
    (h1 : autoParam ((assignEach [.Tuple [.Name n1 q1, .Name n2 q2] kk tp] X.env).map (·.2) = [assign (.Tuple [.Name n1 q1, .Name n2 q2] kk tp) X.env]) aRfl) :
    ST X (.Assign [.Tuple [.Name n1 q1, .Name n2 q2] kk tp] e pos :: rest) Γ E := fun B F H σ D L ed =>
  WP.cons (ps_asg peW hg hs hw h1) (he B F H σ _ L fun v F1 H1 e1 r1 => by
    obtain ⟨ad, v1, v2, rfl, ha, p1, p2⟩ := r1
    have L1 := L.step e1
    exact ⟨ad, _, rfl, st_of L1.same ha, rfl, v1, _, rfl, v2, _, rfl, rfl, hr B F1 H1 _ D ((L1.putV k1 p1).putV k2 p2) (ed.weak e1.ff)⟩)
end
end Tw
namespace Tw
open PySem PySem.Spec PyProof.Rows L2 TL
end Tw
namespace Tw
open PySem PySem.Spec PyProof.Rows L2 TL
end Tw
namespace Tw
open PySem PySem.Spec PyProof.Rows L2 TL
end Tw
namespace Tw
open PySem PySem.Spec PyProof.Rows L2 TL
set_option genInjectivity true in
inductive Dy where
  | i (n : Int)
  | s (x : Tx)
  | n
  | t (xs : List Dy)
  | l (xs : List Dy)
mutual
noncomputable def rpD (F : Hp) : Dy → V → Prop
  | .i n, v => v = .int n
  | .s x, v => v = .str (sx x)
  | .n, v => v = .non
  | .t xs, v => ∃ a vs, v = .ref a ∧ F a = some (.tup vs) ∧ rpDs F xs vs
  | .l xs, v => ∃ a vs, v = .ref a ∧ F a = some (.lst vs) ∧ rpDs F xs vs
noncomputable def rpDs (F : Hp) : List Dy → List V → Prop
  | [], vs => vs = []
  | x :: xs, vs => ∃ v ws, vs = v :: ws ∧ rpD F x v ∧ rpDs F xs ws
end
mutual
theorem rpD_mono {F F' : Hp} (h : Same F F') : ∀ (x : Dy) (v : V), rpD F x v → rpD F' x v
  | .i n, v, r => by rw [rpD] at r ⊢; exact r
  | .s x, v, r => by rw [rpD] at r ⊢; exact r
  | .n, v, r => by rw [rpD] at r ⊢; exact r
  | .t xs, v, r => by
    rw [rpD] at r ⊢
    obtain ⟨a, vs, e, h1, h2⟩ := r
    exact ⟨a, vs, e, h _ _ h1, rpDs_mono h xs vs h2⟩
  | .l xs, v, r => by
    rw [rpD] at r ⊢
    obtain ⟨a, vs, e, h1, h2⟩ := r
    exact ⟨a, vs, e, h _ _ h1, rpDs_mono h xs vs h2⟩
theorem rpDs_mono {F F' : Hp} (h : Same F F') : ∀ (xs : List Dy) (vs : List V), rpDs F xs vs → rpDs F' xs vs
  | [], vs, r => by rw [rpDs] at r ⊢; exact r
  | x :: xs, vs, r => by
    rw [rpDs] at r ⊢
    obtain ⟨v, ws, e, h1, h2⟩ := r
    exact ⟨v, ws, e, rpD_mono h x v h1, rpDs_mono h xs ws h2⟩
end
noncomputable instance repDy : Rep Dy := ⟨fun _ F v x => rpD F x v, fun s h => rpD_mono s _ _ h⟩
theorem rpDs_iff {α : Type} [i : Rep α] {K : PySem.W.Frag} {F : Hp} {d : α → Dy} (hd : ∀ v x, i.rp K F v x ↔ rpD F (d x) v) : ∀ (xs : List α) (vs : List V), Paired (fun u x => i.rp K F u x) vs xs ↔ rpDs F (xs.map d) vs
  | [], vs => by
    rw [List.map_nil, rpDs]
    exact ⟨fun h => by cases h; rfl, fun h => by subst h; exact .nil⟩
  | x :: xs, vs => by
    rw [List.map_cons, rpDs]
    constructor
    · intro h
      cases h with
      | cons r t => exact ⟨_, _, rfl, (hd _ _).mp r, (rpDs_iff hd xs _).mp t⟩
    · rintro ⟨v, ws, rfl, r, t⟩
      exact .cons ((hd _ _).mpr r) ((rpDs_iff hd xs _).mpr t)
class IsD (α : Type) [i : Rep α] where
  d : α → Dy
  iff : ∀ {K : PySem.W.Frag} {F : Hp} {v : V} {x : α}, i.rp K F v x ↔ rpD F (d x) v
noncomputable instance isdDy : IsD Dy := ⟨fun x => x, Iff.rfl⟩
noncomputable instance isdInt : IsD Int := ⟨.i, by intro K F v x; rw [rpD]; exact Iff.rfl⟩
noncomputable instance isdTx : IsD (List Nat) := ⟨.s, by intro K F v x; rw [rpD]; exact Iff.rfl⟩
noncomputable instance isdUnit : IsD Unit := ⟨fun _ => .n, by intro K F v x; rw [rpD]; exact Iff.rfl⟩
noncomputable instance isdList {α : Type} [i : Rep α] [h : IsD α] : IsD (List α) := ⟨fun xs => .l (xs.map h.d), by
  intro K F v xs
  rw [rpD]
  constructor
  · rintro ⟨a, vs, e, h1, p⟩
    exact ⟨a, vs, e, h1, (rpDs_iff (K := K) (fun v x => h.iff) xs vs).mp p⟩
  · rintro ⟨a, vs, e, h1, p⟩
    exact ⟨a, vs, e, h1, (rpDs_iff (K := K) (fun v x => h.iff) xs vs).mpr p⟩⟩
noncomputable instance isdTup {α : Type} [i : Rep α] [h : IsD α] : IsD (Tup α) := ⟨fun xs => .t (xs.l.map h.d), by
  intro K F v xs
  rw [rpD]
  constructor
  · rintro ⟨a, vs, e, h1, p⟩
    exact ⟨a, vs, e, h1, (rpDs_iff (K := K) (fun v x => h.iff) xs.l vs).mp p⟩
  · rintro ⟨a, vs, e, h1, p⟩
    exact ⟨a, vs, e, h1, (rpDs_iff (K := K) (fun v x => h.iff) xs.l vs).mpr p⟩⟩
noncomputable instance isdPair {α β : Type} [i : Rep α] [j : Rep β] [h : IsD α] [h2 : IsD β] : IsD (α × β) := ⟨fun x => .t [h.d x.1, h2.d x.2], by
  intro K F v x
  rw [rpD]
  constructor
  · rintro ⟨a, u, w, e, h1, p, q⟩
    refine ⟨a, _, e, h1, ?_⟩
    rw [rpDs]
    refine ⟨u, _, rfl, h.iff.mp p, ?_⟩
    rw [rpDs]
    exact ⟨w, _, rfl, h2.iff.mp q, by rw [rpDs]⟩
  · rintro ⟨a, vs, e, h1, p⟩
    rw [rpDs] at p
    obtain ⟨u, ws, rfl, p, q⟩ := p
    rw [rpDs] at q
    obtain ⟨w, ws, rfl, q, r⟩ := q
    rw [rpDs] at r
    subst r
    exact ⟨a, u, w, e, h1, h.iff.mpr p, h2.iff.mpr q⟩⟩
section
variable {X : Cx} {Γ : List Slot} {α β γ : Type} {i : Rep α} {j : Rep β} {l : Rep γ} {pos p p2 : Pos} {e a b c elt tg it : Expr} {es : List Expr} {E : SE} {rest body : List Stmt}
theorem ev_conv {x : α} {y : β} (h : EV X Γ e x) (f : ∀ K F v, i.rp K F v x → j.rp K F v y) : EV X Γ e y := fun B F H σ Q L q => h B F H σ Q L fun v F' H' ex r => q v F' H' ex (f _ _ _ r)
theorem ev_tupL {xs : List α} (hm : X.mg "tuple" = none) (h : EV X Γ e xs) (hg : autoParam (Gl X "tuple") aRfl) (hs : autoParam (starEach [e] X.env = (false, eval e X.env) :: starEach [] X.env) aStar) (hpl : autoParam ((backTo pos (starEach [] X.env)).any (·.1) = false) aPl) :
    EV X Γ (.Call (.Name "tuple" p) [e] [] pos) (Tup.mk xs) := fun B F H σ Q L q =>
  WE.of (pe_callTy call_tuple_of hg hm (by decide +kernel) (pa_cons peW pa_nil hs) (by decide) (by decide) hs hpl) (h B F H σ _ L fun v F1 H1 e1 r1 => by
    obtain ⟨ad, vs, rfl, ha, pr⟩ := r1
    have s1 := (L.step e1).same
    exact ⟨ad, vs, rfl, .inl ⟨sq_of s1 ha, fun q' hq => by
      have ea := Ext.new (o := .tup vs) s1 hq
      exact q (.ref q') _ _ (e1.trans ea) ⟨q', vs, rfl, upd_same, Paired.mapP pr fun _ _ z => i.mono ea.ff z⟩⟩⟩)
theorem en_listT {xs : Tup α} (hm : X.mg "list" = none) (h : EV X Γ e xs) (hg : autoParam (Gl X "list") aRfl) (hs : autoParam (starEach [e] X.env = (false, eval e X.env) :: starEach [] X.env) aStar) (hpl : autoParam ((backTo pos (starEach [] X.env)).any (·.1) = false) aPl) :
    EN X Γ (.Call (.Name "list" p) [e] [] pos) xs.l := fun B F H σ Q L q =>
  WE.of (pe_callTy call_list_of hg hm (by decide +kernel) (pa_cons peW pa_nil hs) (by decide) (by decide) hs hpl) (h B F H σ _ L fun v F1 H1 e1 r1 => by
    obtain ⟨ad, vs, rfl, ha, pr⟩ := r1
    have s1 := (L.step e1).same
    exact ⟨ad, vs, rfl, .inr (st_of s1 ha), fun q' hq => q q' vs F1 _ (e1.trans (Ext.apart s1 hq)) (e1.hs.free hq) (s1.free hq) upd_same pr⟩)
theorem ED.same {B : Bs} {F0 F1 : Hp} {D : Ends} (ed : ED X B F0 E D) (s : Same F0 F1) : ED X B F1 E D := ed.weak s
end
end Tw
namespace Tw
open PySem PySem.Spec PyProof.Rows L2 TL
end Tw
namespace Tw
open PySem PySem.Spec PyProof.Rows L2 TL
noncomputable def tRevS (te : TE) : TE := fun σ H Q => te σ H fun x H1 => ∃ z, x = .str z ∧ z.length ≤ sizeLine ∧ Q (.str ⟨z.cps.toList.reverse.toArray⟩) H1
theorem back_idx (n : Nat) : Builtin.Str.strSliceIndices none none (-1) n = (List.range n).map fun k => n - 1 - k := by
  unfold Builtin.Str.strSliceIndices
  simp only [show ¬ ((-1 : Int) > 0) by decide, if_false]
  exact PySem.W.krv_sliceRange n
theorem back_pick (z : Str) : (((Builtin.Str.strSliceIndices none none (-1) z.length).filterMap (z.cps[·]?)).toArray) = z.cps.toList.reverse.toArray := by
  have e : z.length = z.cps.size := rfl
  rw [back_idx, PySem.W.krv_range, List.filterMap_reverse, e, PySem.W.krv_all]
theorem pe_revS {X : Cx} {e : Expr} {te : TE} {k : Nat} {p1 p2 p3 pos : Pos} (he : PE X e te) : PE X (.Subscript e (.Slice none none (some (.UnaryOp .USub (.Constant (.int 1) k p1) p2)) p3) pos) (tRevS te) := by
  refine ⟨fun pins s σ H Q I h => ?_⟩
  refine Subscript_ (thn (he.run pins s σ H _ I h) fun v s1 ⟨x, H1, I1, r1, q1⟩ => ?_)
  obtain ⟨z, ex, hz, q⟩ := q1
  subst ex
  obtain ⟨tk, rfl⟩ := r1
  have hst : PO X (some (.UnaryOp .USub (.Constant (.int 1) k p1) p2)) (tPart (tUn (rU fun i => .int (-i)) (tC (.int 1)))) := po_some (pe_un un_neg pe_int)
  refine wpAny_Slice (thn (po_none.run pins s1 σ H1 (fun o H2 => o = none ∧ H2 = H1) I1 ⟨rfl, rfl⟩) fun vl s2 ⟨l, H2, I2, pl, el, e2⟩ => ?_)
  subst el e2
  refine thn (po_none.run pins s2 σ H2 (fun o H3 => o = none ∧ H3 = H2) I2 ⟨rfl, rfl⟩) fun vu s3 ⟨u, H3, I3, pu, eu, e3⟩ => ?_
  subst eu e3
  refine thn (hst.run pins s3 σ H3 (fun o H4 => o = some (-1) ∧ H4 = H3) I3 ⟨1, rfl, -1, rfl, rfl, rfl⟩) fun vs s4 ⟨o, H4, I4, ps, eo, e4⟩ => ?_
  subst eo e4
  have I5 : Inv X pins σ H4 { s4 with heap := s4.heap.push { cls := .type "slice", data := .fields #[vl, vu, vs] } } := I4.kept (t' := s4.toks) fun b ob q => Heap.get?_push_of_some _ q
  show wpAny (model X.prog X.w) X.A (subscriptTail e (.Slice none none (some (.UnaryOp .USub (.Constant (.int 1) k p1) p2)) p3) (.str z tk) (.ref s4.heap.objs.size)) (EP X pins σ Q) X.xe { s4 with heap := s4.heap.push { cls := .type "slice", data := .fields #[vl, vu, vs] } }
  refine tail_any (ops := [.str z tk, .ref s4.heap.objs.size]) (typeIs_str _ _ _) (PySem.F.slot_str_getitem.lookup) ?_ (by with_unfolding_all rfl)
  obtain ⟨l1, rfl, el1⟩ := IsPart.raw pl
  obtain ⟨u1, rfl, eu1⟩ := IsPart.raw pu
  obtain ⟨w1, rfl, ew1⟩ := IsPart.raw ps
  have hl0 : l1 = none := by cases l1 with | none => rfl | some _ => cases el1
  have hu0 : u1 = none := by cases u1 with | none => rfl | some _ => cases eu1
  subst hl0 hu0
  obtain ⟨t9, rfl⟩ : ∃ t9, w1 = some ((-1 : Int), t9) := by
    cases w1 with
    | none => cases ew1
    | some y => exact ⟨y.2, by cases y; cases ew1; rfl⟩
  refine wpAny_getItem_str_slice (l := none) (u := none) (st := some (-1, t9)) ⟨_, Heap.get?_push_size _ rfl, rfl, rfl⟩ rfl ?_
  show Made.post (if (((-1 : Int) == 1) && _) = true then Made.val (.str z tk) else Made.str ⟨((Builtin.Str.strSliceIndices none none (-1) z.length).filterMap (z.cps[·]?)).toArray⟩) (EP X pins σ Q) _
  rw [if_neg (by simp), back_pick]
  refine ⟨?_, .str _, H4, I5.tok _, ⟨_, rfl⟩, q⟩
  show (z.cps.toList.reverse.toArray).size ≤ sizeLine
  rw [List.size_toArray, List.length_reverse, Array.length_toList]
  exact hz
section
variable {X : Cx} {Γ : List Slot} {α β γ : Type} {i : Rep α} {j : Rep β} {pos p p2 pos2 : Pos} {e a b c elt tg it : Expr} {es : List Expr} {E : SE} {rest body : List Stmt}
theorem ev_revS {x : Tx} {k : Nat} {p1 p3 : Pos} (h : EV X Γ e x) (hz : x.length ≤ sizeLine) : EV X Γ (.Subscript e (.Slice none none (some (.UnaryOp .USub (.Constant (.int 1) k p1) p2)) p3) pos) x.reverse := fun B F H σ Q L q =>
  WE.of (pe_revS peW) (h B F H σ _ L fun v F1 H1 e1 r1 => by
    obtain rfl : v = .str (sx x) := r1
    exact ⟨sx x, rfl, by rw [sx_len]; exact hz, q _ F1 H1 e1 rfl⟩)
end
end Tw
namespace Tw
open PySem PySem.Spec PyProof.Rows L2 TL
section
variable {X : Cx} {Γ : List Slot} {α β γ : Type} {i : Rep α} {j : Rep β} {pos p p2 pos2 : Pos} {e a b c elt tg it : Expr} {es : List Expr} {E : SE} {rest body : List Stmt}
theorem WA.no {es : List Expr} {σ : L2.St} {H : Hp} {Q : List V → Hp → Prop} (h : WA X es σ H (fun _ _ => False)) : WA X es σ H Q := ⟨fun pos pins s I => wpAny_mono (h.go pos pins s I) (fun us s1 ⟨vs, H1, I1, r1, hf⟩ => hf.elim) fun _ _ z => z⟩
end
end Tw
namespace Tw
open PySem PySem.Spec PyProof.Rows L2 TL
mutual
noncomputable def Dy.py : Dy → PyData
  | .i z => .int z
  | .s x => .str (sx x)
  | .n => .none
  | .t xs => .tuple (Dy.pys xs)
  | .l xs => .list (Dy.pys xs)
noncomputable def Dy.pys : List Dy → List PyData
  | [] => []
  | x :: xs => x.py :: Dy.pys xs
end
mutual
noncomputable def Dy.okc : Dy → Prop
  | .i _ => True
  | .s x => TxOk x
  | .n => True
  | .t xs => Dy.okcs xs
  | .l xs => Dy.okcs xs
noncomputable def Dy.okcs : List Dy → Prop
  | [] => True
  | x :: xs => x.okc ∧ Dy.okcs xs
end
mutual
noncomputable def Dy.dep : Dy → Nat
  | .i _ => 0
  | .s _ => 0
  | .n => 0
  | .t xs => Dy.deps xs + 1
  | .l xs => Dy.deps xs + 1
noncomputable def Dy.deps : List Dy → Nat
  | [] => 0
  | x :: xs => max x.dep (Dy.deps xs)
end
mutual
theorem Dy.py_dep : ∀ x : Dy, x.py.depth = x.dep
  | .i z => by rw [Dy.py, Dy.dep, PyData.depth]
  | .s x => by rw [Dy.py, Dy.dep, PyData.depth]
  | .n => by rw [Dy.py, Dy.dep, PyData.depth]
  | .t xs => by rw [Dy.py, Dy.dep, PyData.depth, Dy.pys_dep xs]
  | .l xs => by rw [Dy.py, Dy.dep, PyData.depth, Dy.pys_dep xs]
theorem Dy.pys_dep : ∀ xs : List Dy, PyData.depthAll (Dy.pys xs) = Dy.deps xs
  | [] => by rw [Dy.pys, Dy.deps, PyData.depthAll]
  | x :: xs => by rw [Dy.pys, Dy.deps, PyData.depthAll, Dy.py_dep x, Dy.pys_dep xs]
end
mutual
theorem Dy.py_lay : ∀ x : Dy, x.okc → x.py.canLay0 = true
  | .i z, _ => by rw [Dy.py, PyData.canLay0]
  | .s x, h => by
    rw [Dy.py]
    rw [Dy.okc] at h
    exact (instDatTx).lay h
  | .n, _ => by rw [Dy.py, PyData.canLay0]
  | .t xs, h => by rw [Dy.py, PyData.canLay0]; rw [Dy.okc] at h; exact Dy.pys_lay xs h
  | .l xs, h => by rw [Dy.py, PyData.canLay0]; rw [Dy.okc] at h; exact Dy.pys_lay xs h
theorem Dy.pys_lay : ∀ xs : List Dy, Dy.okcs xs → PyData.canLayAll0 (Dy.pys xs) = true
  | [], _ => by rw [Dy.pys, PyData.canLayAll0]
  | x :: xs, h => by
    rw [Dy.okcs] at h
    rw [Dy.pys, PyData.canLayAll0, Dy.py_lay x h.1, Dy.pys_lay xs h.2]
    rfl
end
mutual
theorem Dy.py_eqv : ∀ x y : Dy, PyData.eqv x.py y.py = true ↔ x = y
  | .i a, .i b => by rw [Dy.py, Dy.py, PyData.eqv, beq_iff_eq]; exact ⟨fun h => congrArg _ h, fun h => Dy.i.inj h⟩
  | .i a, .s b => by simp [Dy.py, PyData.eqv]
  | .i a, .n => by simp [Dy.py, PyData.eqv]
  | .i a, .t b => by simp [Dy.py, PyData.eqv]
  | .i a, .l b => by simp [Dy.py, PyData.eqv]
  | .s a, .i b => by simp [Dy.py, PyData.eqv]
  | .s a, .s b => by
    rw [Dy.py, Dy.py]
    have := (instDatTx).eqv a b
    rw [show PyData.eqv (.str (sx a)) (.str (sx b)) = decide (a = b) from this, decide_eq_true_eq]
    exact ⟨fun h => congrArg _ h, fun h => Dy.s.inj h⟩
  | .s a, .n => by simp [Dy.py, PyData.eqv]
  | .s a, .t b => by simp [Dy.py, PyData.eqv]
  | .s a, .l b => by simp [Dy.py, PyData.eqv]
  | .n, .i b => by simp [Dy.py, PyData.eqv]
  | .n, .s b => by simp [Dy.py, PyData.eqv]
  | .n, .n => by simp [Dy.py, PyData.eqv]
  | .n, .t b => by simp [Dy.py, PyData.eqv]
  | .n, .l b => by simp [Dy.py, PyData.eqv]
  | .t a, .i b => by simp [Dy.py, PyData.eqv]
  | .t a, .s b => by simp [Dy.py, PyData.eqv]
  | .t a, .n => by simp [Dy.py, PyData.eqv]
  | .t a, .t b => by rw [Dy.py, Dy.py, PyData.eqv, Dy.pys_eqv a b]; exact ⟨fun h => congrArg _ h, fun h => Dy.t.inj h⟩
  | .t a, .l b => by simp [Dy.py, PyData.eqv]
  | .l a, .i b => by simp [Dy.py, PyData.eqv]
  | .l a, .s b => by simp [Dy.py, PyData.eqv]
  | .l a, .n => by simp [Dy.py, PyData.eqv]
  | .l a, .t b => by simp [Dy.py, PyData.eqv]
  | .l a, .l b => by rw [Dy.py, Dy.py, PyData.eqv, Dy.pys_eqv a b]; exact ⟨fun h => congrArg _ h, fun h => Dy.l.inj h⟩
theorem Dy.pys_eqv : ∀ xs ys : List Dy, PyData.eqvAll (Dy.pys xs) (Dy.pys ys) = true ↔ xs = ys
  | [], [] => by simp [Dy.pys, PyData.eqvAll]
  | [], y :: ys => by simp [Dy.pys, PyData.eqvAll]
  | x :: xs, [] => by simp [Dy.pys, PyData.eqvAll]
  | x :: xs, y :: ys => by rw [Dy.pys, Dy.pys, PyData.eqvAll, Bool.and_eq_true, Dy.py_eqv x y, Dy.pys_eqv xs ys]; exact ⟨fun h => by rw [h.1, h.2], fun h => by cases h; exact ⟨rfl, rfl⟩⟩
end
mutual
theorem rpD_dp {K : PySem.W.Frag} {F : Hp} : ∀ (x : Dy) (v : V), rpD F x v → Dp K F v x.py
  | .i z, v, h => by rw [rpD] at h; subst h; rw [Dy.py]; exact .int z
  | .s x, v, h => by rw [rpD] at h; subst h; rw [Dy.py]; exact .str _
  | .n, v, h => by rw [rpD] at h; subst h; rw [Dy.py]; exact .non
  | .t xs, v, h => by
    rw [rpD] at h
    obtain ⟨a, vs, rfl, h1, h2⟩ := h
    rw [Dy.py]
    exact .tup (.inl (.inl h1)) (rpDs_dp xs vs h2)
  | .l xs, v, h => by
    rw [rpD] at h
    obtain ⟨a, vs, rfl, h1, h2⟩ := h
    rw [Dy.py]
    exact .lst (.inl (.inl h1)) (rpDs_dp xs vs h2)
theorem rpDs_dp {K : PySem.W.Frag} {F : Hp} : ∀ (xs : List Dy) (vs : List V), rpDs F xs vs → DpAll K F vs (Dy.pys xs)
  | [], vs, h => by rw [rpDs] at h; subst h; rw [Dy.pys]; exact .nil
  | x :: xs, vs, h => by
    rw [rpDs] at h
    obtain ⟨v, ws, rfl, h1, h2⟩ := h
    rw [Dy.pys]
    exact .cons (rpD_dp x v h1) (rpDs_dp xs ws h2)
end
structure Dy.Shp (x : Dy) : Prop where
  ok : x.okc
  dp : x.dep ≤ 64
theorem Dy.Shp.shaped {x : Dy} (h : x.Shp) : SeqAt.shaped x.py = true := by
  unfold SeqAt.shaped
  rw [Dy.py_lay x h.ok, Dy.py_dep, decide_eq_true h.dp]
  rfl
section
variable {X : Cx} {Γ : List Slot} {α β γ : Type} {i : Rep α} {j : Rep β} {pos p p2 pos2 : Pos} {e a b c elt tg it : Expr} {es : List Expr} {E : SE} {rest body : List Stmt}
theorem st_setGE (k : Nat) {n : Str} {G : α → List Slot → Prop} (he : EG X Γ e (fun r Γ' => ∃ x, G x Γ' ∧ r = .val i x) (fun _ _ => False)) (hr : ∀ x Γ', G x Γ' → ST X rest (Γ'.set k (.val i x)) E) (hN : X.N.Nodup) (hi : autoParam (X.N[k]? = some n) aRfl) (hx : autoParam (L2.Loc X.env.scope n) aLoc)
    (hs : autoParam (swapsWith e (some (.Name n p)) pos.line X.env = pure false) aRfl) (hf : autoParam (X.fn n = true ∨ X.env.scope.names.lookup n = some .local) Tw.aFn) : ST X (.Assign [.Name n p] e pos :: rest) Γ E := fun B F H σ D L ed =>
  WP.cons (ps_set hN hi hx peW hs hf) (he B F H σ _ L (fun r v F1 H1 Γ2 hP s1 L1 ok => by
    obtain ⟨x, g, rfl⟩ := hP
    exact hr x Γ2 g B F1 H1 _ D (L1.putV k ok) (ed.weak s1)) fun x u d F1 H1 Γ1 z _ _ _ => z.elim)
end
end Tw
namespace Tw
open PySem PySem.Spec PyProof.Rows L2 TL
end Tw
namespace Tw
open PySem PySem.Spec PyProof.Rows L2 TL
end Tw
namespace L2
open PySem PySem.Spec PySem.Calls PyProof.Rows
end L2
namespace Tw
open PySem PySem.Spec PyProof.Rows L2 TL
end Tw
namespace Tw
open PySem PySem.Spec PyProof.Rows L2 TL
end Tw
universe u
namespace Tw
open PySem PySem.Spec PyProof.Rows L2 TL
end Tw
namespace Tw
open PySem PySem.Spec PyProof.Rows L2 TL
end Tw
namespace Tw
open PySem PySem.Spec PyProof.Rows L2 TL
end Tw
namespace Tw
open PySem PySem.Spec PyProof.Rows L2 TL
end Tw
namespace Tw
open PySem PySem.Spec PyProof.Rows L2 TL
structure Key4 where
  n : Tx
  r : Int
  c : Int
  k : Int
deriving DecidableEq
noncomputable def Key4.ks (x : Key4) : List Key := [.inr (sx x.n), .inl x.r, .inl x.c, .inl x.k]
theorem Key4.inj : ∀ x y : Key4, x.ks = y.ks → x = y := fun x y h => by
  obtain ⟨n, r, c, k⟩ := x
  obtain ⟨n', r', c', k'⟩ := y
  simp only [Key4.ks, List.cons.injEq, and_true] at h
  obtain ⟨h1, h2, h3, h4⟩ := h
  rw [sx_inj (Sum.inr.inj h1), Sum.inl.inj h2, Sum.inl.inj h3, Sum.inl.inj h4]
noncomputable instance repKey4 : Rep Key4 := ⟨fun _ F v x => ∃ b, v = .ref b ∧ F b = some (.tup (x.ks.map kV)), fun s ⟨b, e, h⟩ => ⟨b, e, s _ _ h⟩⟩
noncomputable instance dkKey4 : DKey Key4 := .ofT Key4.ks Key4.inj fun h => h
section
variable {X : Cx} {Γ : List Slot} {α β κ γ : Type} {i : Rep α} [ik : Rep κ] [DecidableEq κ] [dk : DKey κ] {j : Rep β} {lr : Rep γ} {pos p p2 p3 pos2 : Pos} {e a b c : Expr} {es : List Expr} {E : SE} {rest : List Stmt} {n f1 f2 : Str} {C ad dx da : Addr} {x : α} {l : List (κ × β)}
theorem eg_binR {op : Operator} {α' β' γ' : Type} {i' : Rep α'} {j' : Rep β'} {l' : Rep γ'} {x : α'} {N : β' → List Slot → Prop} {g : β' → γ'} (o : ∀ y Γ', N y Γ' → OB X (binaryOp op) x y (g y)) (ha : EV X Γ a x) (hb : EG X Γ b (fun r Γ' => ∃ y, N y Γ' ∧ r = .val j' y) (fun _ _ => False)) :
    EG X Γ (.BinOp a op b pos) (fun r Γ' => ∃ z, (∃ y, N y Γ' ∧ z = g y) ∧ r = .val l' z) (fun _ _ => False) := fun B F H σ Q L q _ =>
  WE.of (pe_op opW peW peW) (ha B F H σ _ L fun v F1 H1 e1 r1 => hb B F1 H1 σ _ (L.step e1) (fun r u F2 H2 Γ2 ⟨y, hy, er⟩ s2 L2 r2 => by
    subst er
    refine o y Γ2 hy F2 H2 v u Q L2.same (i'.mono s2 r1) r2 fun w F3 H3 e3 r3 => ?_
    exact q (.val l' (g y)) w F3 H3 Γ2 ⟨g y, ⟨y, hy, rfl⟩, rfl⟩ (e1.ff.trans (s2.trans e3.ff)) (L2.step e3) r3) fun x u d F1 H1 Γ2 z _ _ _ => z.elim)
theorem eg_imp {P P' : Ret → List Slot → Prop} {R : Exn → List Slot → Prop} (h : EG X Γ e P R) (f : ∀ r Γ', P r Γ' → P' r Γ') : EG X Γ e P' R := fun B F H σ Q L q z => h B F H σ Q L (fun r v F' H' Γ' hp s L' ok => q r v F' H' Γ' (f r Γ' hp) s L' ok) z
end
end Tw
namespace Tw
open PySem PySem.Spec PyProof.Rows L2 TL
end Tw
namespace Tw
open PySem PySem.Spec PyProof.Rows L2 TL
end Tw
namespace Tw
open PySem PySem.Spec PyProof.Rows L2 TL
end Tw
namespace Tw
open PySem PySem.Spec PyProof.Rows L2 TL
end Tw
namespace Tw
open PySem PySem.Spec PyProof.Rows L2 TL
end Tw
namespace Tw
open PySem PySem.Spec PyProof.Rows L2 TL
section
variable {X : Cx} {Γ : List Slot} {α β γ δ : Type} {i : Rep α} {j : Rep β} {l : Rep γ} {m : Rep δ} {pos p p2 pos2 : Pos} {e a b c elt tg it : Expr} {es : List Expr} {E : SE} {rest body : List Stmt}
theorem eg_popAt (k : Nat) {n : Str} {ad : Addr} {xs : List α} {x : α} {z : Int} {t : Nat} {apos cpos : Pos} (he : EV X Γ e z) (h1 : -(2 ^ 63) ≤ z) (h2 : z < 2 ^ 63) (ht : seqIndex? z xs.length = some t) (hx : xs[t]? = some x) (hg : autoParam (Γ[k]? = some (.lst i ad xs)) aRfl) (hN : autoParam (X.N[k]? = some n) aRfl)
    (hv : autoParam (Vis X.env.scope n) aVis) (hd : autoParam ((n == ("__debug__" : Str)) = false) aDec) (hcd : autoParam ((n == ("__classdict__" : Str)) = false) aDec)
    (hs : autoParam (starEach [e] X.env = (false, eval e X.env) :: starEach [] X.env) aStar) (hbase : autoParam (attributeBase (.Name n p) "pop" X.env (eval (.Name n p) X.env) = eval (.Name n p) X.env) aRfl)
    (hfew : autoParam (((backTo cpos (starEach [e] X.env)).all (fun x => !x.1) && (backToKw cpos (keywordEach [] X.env)).all (fun x => x.1.isSome) && decide ([e].length + ([] : List Keyword).length + (if ([] : List Keyword).isEmpty then 0 else 1) < 30)) = true) aRfl) (hline : autoParam ((apos.endLine == cpos.line) = true) aRfl) (hplain : autoParam ((backTo cpos (starEach [] X.env)).any (·.1) = false) aRfl) :
    EG X Γ (.Call (.Attribute (.Name n p) "pop" apos) [e] [] cpos) (fun r Γ' => r = .val i x ∧ Γ' = Γ.set k (.lst i ad (xs.eraseIdx t))) (fun _ _ => False) := fun B F H σ Q L q _ => by
  obtain ⟨vs, ea, fa, ba, ha, pr⟩ := slot_lst L hg
  refine WE.of (pe_bm PySem.F.plainAttrs_list PySem.F.slot_list_pop PySem.F.type_list_pop mt_popAt (pe_var hN hv hd hcd) (pa_cons peW pa_nil hs) hbase hfew hline hs hplain) ?_
  refine ⟨_, ea, .inl ⟨rfl, _, .inl (.inl ha)⟩, he B F H σ _ L fun v F1 H1 e1 r1 => ?_⟩
  obtain rfl : v = V.int z := r1
  have L1 := L.step e1
  obtain ⟨vs1, ea1, fa1, ba1, ha1, pr1⟩ := slot_lst L1 hg
  have hlen : vs1.length = xs.length := Paired.length pr1
  obtain ⟨u, hu, r⟩ := pgetL pr1 hx
  refine ⟨ad, vs1, z, t, u, rfl, rfl, ha1, h1, h2, by rw [hlen]; exact ht, hu, ?_⟩
  have pe : Paired (fun u x => i.rp X.K F1 u x) (vs1.eraseIdx t) (xs.eraseIdx t) := by
    rw [List.eraseIdx_eq_take_drop_succ, List.eraseIdx_eq_take_drop_succ]
    exact papp (ptake _ pr1) (pdrop _ pr1)
  exact q (.val i x) u F1 _ _ ⟨rfl, rfl⟩ e1.ff (L1.updL hg pe) r
end
end Tw
namespace L2
open PySem PySem.Spec PyProof.Rows PySem.W PySem.Calls PyProof.V
end L2
namespace L2
open PySem PySem.Spec PyProof.Rows PySem.W PySem.Calls
section
variable {X : Cx} {pins : List (Addr × Obj)} {σ : St} {H : Hp} {s : Shared} {A : Around} {β : Type} {a kS : Addr} {b : Bool} {vs : List Value} {e1 : Nat} {P : PySem.Fin → Shared → Prop} {k : β → PyData} {bs : List β} {f : Value}
theorem pin_fp {q : Addr} {o : Obj} (I : Inv X ((q, o) :: pins) σ H s) (h0 : X.s_0.heap.objs.size ≤ q) (hp : ∀ p ∈ X.pn ++ pins, p.1 ≠ q) : FpOk X pins H q ∧ s.heap.get? q = some o := by
  obtain ⟨p1, p2, p3, p4, p5⟩ := I.pin (q, o) (List.mem_append_right _ (List.mem_cons_self ..))
  refine ⟨⟨p2, p3, p4, .inr h0, fun x c e z => ?_, hp⟩, p1⟩
  obtain ⟨v, o', ho, hd⟩ := I.cell x c e
  rw [z, p1] at ho
  cases ho
  exact p5 v hd
theorem unpin {q : Addr × Obj} (I : Inv X (q :: pins) σ H s) : Inv X pins σ H s := I.pins_of fun p hp => I.pin p (List.mem_append_right _ (List.mem_cons_of_mem _ hp))
theorem repin {q : Addr} {o : Obj} (I : Inv X pins σ H s) (fp : FpOk X pins H q) (h : s.heap.get? q = some o) (hc : ∀ v, o.data ≠ .cell v) : Inv X ((q, o) :: pins) σ H s := I.pins_of fun p hp => by
  rcases List.mem_cons.mp hp with z | z
  · rw [z]; exact ⟨h, fp.1, fp.2.1, fp.2.2.1, hc⟩
  · exact I.pin p (List.mem_append_right _ z)
theorem keyI_rest (hka : kS ≠ a) (I : Inv X ((kS, seqObj "list" #[] 0) :: (a, seqObj "list" #[] e1) :: pins) σ H s) (hk0 : X.s_0.heap.objs.size ≤ kS) (ha0 : X.s_0.heap.objs.size ≤ a) (hkp : ∀ p ∈ X.pn ++ pins, p.1 ≠ kS) (hap : ∀ p ∈ X.pn ++ pins, p.1 ≠ a)
    (hlen : bs.length = vs.length) (hZ : vs.length ≤ sizeLine) (hal : AllAlike (bs.map k)) (hsk : Sortable (bs.map k)) (hu : ∀ d, d ∈ bs.map k → A.units + d.depth < cLine)
    (turn : ∀ (j : Nat) (u : Value) (x : β), vs[j]? = some u → bs[j]? = some x → ∀ (H' : Hp) (pins' : List (Addr × Obj)) (s' : Shared), (∀ c o, H c = some o → H' c = some o) → Inv X pins' σ H' s' → ∀ Qk : VK, (∀ v H'', (∀ c o, H' c = some o → H'' c = some o) → Dp X.K H'' v (k x) → Qk v H'') →
      wpAny (model X.prog X.w) A (call f [u]) (EP X pins' σ Qk) (fun _ _ => False) s')
    (dm : ∀ (H' H'' : Hp) (v : V) (d : PyData), (∀ c o, H' c = some o → H'' c = some o) → Dp X.K H' v d → Dp X.K H'' v d)
    (h : ∀ H' s' out c, (∀ c o, H c = some o → H' c = some o) → Inv X pins σ H' s' → FpOk X pins H' a → s'.heap.get? a = some (seqObj "list" (List.toArray out) c) → KeyedOut b (bs.map k) vs out → P (.done (.ret .none)) s') :
    wpAny (model X.prog X.w) A (ksk_rest a f b vs.toArray e1 (.ref kS)) P X.xe s := by
  unfold ksk_rest
  refine wpAny_bind (wpAny_rule ?_)
  first
    | rw [List.forIn_toArray]
    | (rw [← Array.forIn_toList]; simp only [List.toList_toArray])
    | rw [← Array.forIn_toList]
  refine wpAny_bind (ksk_fold (fun i s' => ∃ H' kA e, (∀ c o, H c = some o → H' c = some o) ∧ Inv X ((kS, seqObj "list" kA e) :: (a, seqObj "list" #[] e1) :: pins) σ H' s' ∧ EachIs (fun u x => ∃ v, RelV v u ∧ Dp X.K H' v (k x)) kA.toList (bs.take i)) vs 0 s
    ⟨H, #[], 0, fun _ _ q => q, I, by rw [List.take_zero]; exact EachIs.nil⟩ ?step ?done)
  case step =>
    rintro j u s' hx ⟨H', kA, e, hs, I', hk⟩
    simp only [Nat.zero_add] at hk ⊢
    have hj : j < vs.length := (List.getElem?_eq_some_iff.mp hx).1
    obtain ⟨x, hkj⟩ : ∃ x, bs[j]? = some x := ⟨_, List.getElem?_eq_getElem (by omega)⟩
    have hz : kA.size ≤ vs.length := by
      have h1 := hk.length
      rw [Array.length_toList, List.length_take] at h1
      omega
    refine wpAny_bind (wpAny_attempt (wpAny_mono (turn j u x hx hkj H' _ s' hs I' (fun v H'' => (∀ c o, H' c = some o → H'' c = some o) ∧ Dp X.K H'' v (k x)) fun v H'' h1 h2 => ⟨h1, h2⟩) (fun v s'' he => ?_) fun _ _ hF => hF.elim))
    obtain ⟨vv, H'', I'', rv, h1, h2⟩ := he
    try dsimp only
    have hka' : ∀ p ∈ X.pn ++ ((a, seqObj "list" #[] e1) :: pins), p.1 ≠ kS := fun p hp => by
      rcases List.mem_append.mp hp with z | z
      · exact hkp p (List.mem_append_left _ z)
      · rcases List.mem_cons.mp z with z | z
        · rw [z]; exact hka.symm
        · exact hkp p (List.mem_append_right _ z)
    obtain ⟨fk, nk2⟩ := pin_fp I'' hk0 hka'
    have s1 := Heap.SameBut.update s''.heap kS (Obj.mapSeq (·.push v))
    obtain ⟨c2, hc2⟩ : ∃ c2, (s''.heap.update kS (Obj.mapSeq (·.push v))).get? kS = some (seqObj "list" (kA.push v) c2) := ⟨_, get?_update_seq nk2 (·.push v)⟩
    have ek : bs.take (j + 1) = bs.take j ++ [x] := by rw [List.take_add_one, hkj]; simp
    have ea : (kA.push v).toList = kA.toList ++ [v] := by simp
    refine wpAny_bind (listUpdate_at nk2 rfl ?_ (Nat.le_trans hz hZ) (Nat.le_trans (Nat.le_of_eq (Array.size_push ..)) (Nat.succ_le_succ (Nat.le_trans hz hZ))))
    have I3 := (unpin I'').turned (t' := s''.toks) (it := kS) (fun b o hb q => (s1.2 b hb).trans q) fk.1 fk.2.1 fk.2.2.2.1 fk.2.2.2.2.1 fk.2.2.2.2.2
    refine wpAny_pure ⟨rfl, H'', kA.push v, c2, fun c o q => h1 _ _ (hs _ _ q), repin I3 fk hc2 (fun v z => by cases z), ?_⟩
    rw [ea, ek]
    exact each_snoc (R := fun (u : Value) (x : β) => ∃ v, RelV v u ∧ Dp X.K H'' v (k x)) ⟨vv, rv, h2⟩ (hk.mono fun u d ⟨w, r1, r2⟩ => ⟨w, r1, dm _ _ _ _ h1 r2⟩)
  case done =>
    rintro s' ⟨H', kA, e, hs, I', hk⟩
    have e3 : bs.take (0 + vs.length) = bs := List.take_of_length_le (by omega)
    rw [e3] at hk
    have hka' : ∀ p ∈ X.pn ++ ((a, seqObj "list" #[] e1) :: pins), p.1 ≠ kS := fun p hp => by
      rcases List.mem_append.mp hp with z | z
      · exact hkp p (List.mem_append_left _ z)
      · rcases List.mem_cons.mp z with z | z
        · rw [z]; exact hka.symm
        · exact hkp p (List.mem_append_right _ z)
    obtain ⟨fk, nk'⟩ := pin_fp I' hk0 hka'
    obtain ⟨fa, na'⟩ := pin_fp (unpin I') ha0 hap
    have hk' : EachIs (fun v d => ∃ as, Reads s'.heap v d as) kA.toList (bs.map k) := by
      have : ∀ {us : List Value} {ys : List β}, EachIs (fun u x => ∃ v, RelV v u ∧ Dp X.K H' v (k x)) us ys → EachIs (fun v d => ∃ as, Reads s'.heap v d as) us (ys.map k) := by
        intro us ys h
        induction h with
        | nil => exact .nil
        | cons h1 h2 ih =>
          obtain ⟨v, r1, r2⟩ := h1
          exact .cons (Dp.reads I' _ _ _ r2 r1) ih
      exact this hk
    have hsz : kA.size = vs.length := by
      have h1 := hk.length
      rw [Array.length_toList] at h1
      omega
    try dsimp only
    refine wpAny_bind (listItems_at nk' rfl ?_)
    obtain ⟨G, g1, g2⟩ := restrict s'.heap fun c => decide (c ≠ kS)
    have kp : KeepsBut a G s'.heap := fun c o hc q => by
      by_cases hz : c = kS
      · rw [g2 c (by simp [hz])] at q; cases q
      · rw [g1 c (by simp [hz])] at q; exact q
    refine keyH_end (κ := dataKind s'.heap (bs.map k)) (h₁ := G) kp (g2 kS (by simp)) nk' na' hka (SortsAt.data hk' hal hsk hu) hsz hZ fun h3 tk3 c k3 n3 => ?_
    have keep3 : ∀ c o, c ∉ [a, kS] → s'.heap.get? c = some o → h3.get? c = some o := fun c o hc q => by
      have h1 : c ≠ a := fun z => hc (by simp [z])
      have h2 : c ≠ kS := fun z => hc (by simp [z])
      exact k3 c o h1 ((g1 c (by simp [h2])).trans q)
    have fk2 : FpOk X pins H' kS := ⟨fk.1, fk.2.1, fk.2.2.1, fk.2.2.2.1, fk.2.2.2.2.1, hkp⟩
    have I4 := (unpin (unpin I')).turnedL (t' := tk3) (ch := [a, kS]) keep3 fun c hc => by
      rcases List.mem_cons.mp hc with z | z
      · rw [z]; exact fa
      · rw [List.mem_singleton.mp z]; exact fk2
    exact h H' _ _ c hs I4 fa n3 ⟨s'.heap, kA.toList, hal, rfl, hk'⟩
theorem keyI_tree {n : Nat} (I : Inv X ((a, seqObj "list" vs.toArray n) :: pins) σ H s) (ha0 : X.s_0.heap.objs.size ≤ a) (hap : ∀ p ∈ X.pn ++ pins, p.1 ≠ a)
    (hlen : bs.length = vs.length) (hZ : vs.length ≤ sizeLine) (hal : AllAlike (bs.map k)) (hsk : Sortable (bs.map k)) (hu : ∀ d, d ∈ bs.map k → A.units + d.depth < cLine)
    (turn : ∀ (j : Nat) (u : Value) (x : β), vs[j]? = some u → bs[j]? = some x → ∀ (H' : Hp) (pins' : List (Addr × Obj)) (s' : Shared), (∀ c o, H c = some o → H' c = some o) → Inv X pins' σ H' s' → ∀ Qk : VK, (∀ v H'', (∀ c o, H' c = some o → H'' c = some o) → Dp X.K H'' v (k x) → Qk v H'') →
      wpAny (model X.prog X.w) A (call f [u]) (EP X pins' σ Qk) (fun _ _ => False) s')
    (dm : ∀ (H' H'' : Hp) (v : V) (d : PyData), (∀ c o, H' c = some o → H'' c = some o) → Dp X.K H' v d → Dp X.K H'' v d)
    (h : ∀ H' s' out c, (∀ c o, H c = some o → H' c = some o) → Inv X pins σ H' s' → FpOk X pins H' a → s'.heap.get? a = some (seqObj "list" (List.toArray out) c) → KeyedOut b (bs.map k) vs out → P (.done (.ret .none)) s') :
    wpAny (model X.prog X.w) A (ksk_tree a f b) P X.xe s := by
  obtain ⟨fa, ho⟩ := pin_fp I ha0 hap
  have ha : a < s.heap.objs.size := Heap.lt_size ho
  obtain ⟨e1, ho1⟩ : ∃ e1, (s.heap.update a (Obj.mapSeq fun _ => (#[] : Array Value))).get? a = some (seqObj "list" #[] e1) := ⟨_, get?_update_seq ho fun _ => #[]⟩
  have hkS : ((s.heap.update a (Obj.mapSeq fun _ => (#[] : Array Value))).push (seqObj "tuple" vs.toArray 0)).objs.size = s.heap.objs.size + 1 := by rw [size_push', Heap.size_update]
  unfold ksk_tree
  refine wpAny_bind (listItems_at ho rfl ?_)
  refine wpAny_bind (listUpdate_at ho rfl ?_ (by rw [List.size_toArray]; exact hZ) (Nat.zero_le _))
  refine wpAny_bind (seqEpoch_at ho1 rfl ?_)
  refine wpAny_bind (wpAny_newTuple ?_ (by show vs.length ≤ _; exact hZ))
  refine wpAny_bind (wpAny_newList ?_ (Nat.zero_le _))
  refine wpAny_holding ?_
  have sb := Heap.SameBut.update s.heap a (Obj.mapSeq fun _ => (#[] : Array Value))
  have I1 := repin ((unpin I).turned (t' := s.toks) (it := a) (fun c o hc q => (sb.2 c hc).trans q) fa.1 fa.2.1 fa.2.2.2.1 fa.2.2.2.2.1 fa.2.2.2.2.2) fa ho1 (fun v z => by cases z)
  have I2 := I1.kept (t' := s.toks) (h' := ((s.heap.update a (Obj.mapSeq fun _ => (#[] : Array Value))).push (seqObj "tuple" vs.toArray 0)).push (seqObj "list" #[] 0)) fun c o q => Heap.get?_push_of_some _ (Heap.get?_push_of_some _ q)
  have hsz : (s.heap.update a (Obj.mapSeq fun _ => (#[] : Array Value))).objs.size ≤ ((s.heap.update a (Obj.mapSeq fun _ => (#[] : Array Value))).push (seqObj "tuple" vs.toArray 0)).objs.size := by rw [hkS, Heap.size_update]; exact Nat.le_succ _
  have fk := I1.fpOk (H' := H) hsz (I1.hok.fresh hsz)
  have I3 := repin I2 fk (Heap.get?_push_size _ rfl) (fun v z => by cases z)
  exact keyI_rest (by rw [hkS]; exact Nat.ne_of_gt (Nat.lt_succ_of_lt ha)) I3 (Nat.le_trans I1.sz hsz) ha0 (fun p hp => fk.2.2.2.2.2 p (by
    rcases List.mem_append.mp hp with z | z
    · exact List.mem_append_left _ z
    · exact List.mem_append_right _ (List.mem_cons_of_mem _ z))) hap hlen hZ hal hsk hu turn dm h
theorem sorted_valsKey {T : String} {r d : Addr} {n : Nat} {Pv : Nat → Value → Prop} {OK : Heap → Prop} {R : Value → β → Prop} {fa : Addr} {Q : Value → Shared → Prop} (K : KdlSrc X.prog X.w T r d n Pv OK) (hh : A.handled = none) (I : Inv X pins σ H s) (hok : OK s.heap) (hn : n ≤ sizeLine)
    (hbs : bs.length = n) (hP : ∀ vs : List Value, vs.length = n → (∀ j v, vs[j]? = some v → Pv j v) → EachIs R vs bs) (hal : AllAlike (bs.map k)) (hsk : Sortable (bs.map k)) (hu : ∀ d, d ∈ bs.map k → A.units + 2 + d.depth < cLine)
    (turn : ∀ (u : Value) (x : β), R u x → x ∈ bs → ∀ (H' : Hp) (pins' : List (Addr × Obj)) (s' : Shared), (∀ c o, H c = some o → H' c = some o) → Inv X pins' σ H' s' → ∀ Qk : VK, (∀ v H'', (∀ c o, H' c = some o → H'' c = some o) → Dp X.K H'' v (k x) → Qk v H'') →
      wpAny (model X.prog X.w) A.in1.in1 (call (.ref fa) [u]) (EP X pins' σ Qk) (fun _ _ => False) s')
    (dm : ∀ (H' H'' : Hp) (v : V) (d : PyData), (∀ c o, H' c = some o → H'' c = some o) → Dp X.K H' v d → Dp X.K H'' v d)
    (h : ∀ H' s' out a c, (∀ c o, H c = some o → H' c = some o) → Inv X pins σ H' s' → FpOk X pins H' a → s'.heap.get? a = some (seqObj "list" (List.toArray out) c) → EachIs R out (bs.mergeSort (dataLe false k)) → Q (.ref a) s') :
    wpAny (model X.prog X.w) A (call (.builtin "sorted") [.ref r] [(Str.ofString "key", .ref fa)]) Q X.xe s := by
  refine call_function_entry_kw kind_sorted plain_sorted entry_sorted (ksk_s1 _ _) ?_
  unfold Builtin.«sorted»
  refine wpAny_bind (m := checkCount "sorted" 1 1 _) (wpAny_pure ?_)
  refine wpAny_bind (kdu_collect (A := A.in1) K hh hok hn fun h' tk acc hk hacc => ?_)
  have hl : acc.toList.length = n := by rw [Array.length_toList]; exact hacc.1
  have hE : EachIs R acc.toList bs := hP acc.toList hl fun j v e => hacc.2 j v (by rw [← Array.getElem?_toList]; exact e)
  refine wpAny_bind (wpAny_newList ?_ (by rw [hl]; exact hn))
  have I1 := I.kept (t' := tk) hk
  have I2 := I1.kept (t' := tk) (h' := h'.push (seqObj "list" acc.toList.toArray 0)) fun c o q => Heap.get?_push_of_some _ q
  have fa0 := I1.fpOk (H' := H) (b := h'.objs.size) (Nat.le_refl _) (I1.hok.fresh (Nat.le_refl _))
  have hg : (h'.push (seqObj "list" acc.toList.toArray 0)).get? h'.objs.size = some (seqObj "list" acc.toList.toArray 0) := Heap.get?_push_size _ rfl
  have I3 := repin I2 fa0 hg (fun v z => by cases z)
  refine wpAny_bind (wpAny_holding (wpAny_call_entry_kw slot_list_sort ⟨_, hg, rfl⟩ entry_list_sort ?body (ksk_l1 _ _)))
  case body =>
    rw [ksk_t1]
    refine wpAny_mono (keyI_tree (P := fun f s' => f = .done (.ret .none) ∧ Q (.ref h'.objs.size) s') I3 I1.sz (fun p hp => fa0.2.2.2.2.2 p hp) (by rw [hl]; exact hbs) (by rw [hl]; exact hn) hal hsk hu
      (fun j u x hu' hx => turn u x (hE.zip (u, x) (List.mem_of_getElem? (i := j) (by rw [List.getElem?_zip_eq_some]; exact ⟨hu', hx⟩))) (List.mem_of_getElem? hx)) dm fun H' s' out c hs I' fp hget ko => ⟨rfl, h H' s' out _ c hs I' fp hget (keyedOut_each k ko hE)⟩) (fun f s' hf => ?_) fun _ _ e => e
    obtain ⟨rfl, hq⟩ := hf
    exact ⟨_, rfl, wpAny_pure ⟨_, rfl, hq⟩⟩
end
end L2
namespace L2
open PySem PySem.Spec PyProof.Rows PySem.W PySem.Calls
end L2
namespace L2
open PySem PySem.Spec PyProof.Rows PySem.W PySem.Calls
noncomputable def valuesO (p d : Addr) : HO := .ext fun h => h.IsValuesView p d
theorem valuesO_ok {P : Program} {w : World} {H : Hp} {h : Heap} {p d : Addr} (e : h.get? p = some { cls := .type "dict_values", data := .fields #[.ref d] }) : ObjOk P w H h p (valuesO p d) :=
  ⟨⟨_, e, rfl, rfl⟩, ⟨_, e⟩, fun h1 h2 x k => let ⟨o, ho, r⟩ := x; ⟨o, k o ho, r⟩⟩
theorem sqL_mono {K : PySem.W.Frag} {H H' : Hp} {a : Addr} {xs : List V} (s : ∀ b o, H b = some o → H' b = some o) (h : SqL K H a xs) : SqL K H' a xs := by
  unfold SqL at h ⊢
  rcases h with h | h
  · exact .inl (h.imp (s _ _) fun ⟨o, e⟩ => ⟨o, s _ _ e⟩)
  · exact .inr h
theorem sqT_mono {K : PySem.W.Frag} {H H' : Hp} {a : Addr} {xs : List V} (s : ∀ b o, H b = some o → H' b = some o) (h : SqT K H a xs) : SqT K H' a xs := by
  unfold SqT at h ⊢
  rcases h with h | h
  · exact .inl (h.imp (s _ _) fun ⟨o, e⟩ => ⟨o, s _ _ e⟩)
  · exact .inr h
mutual
theorem dp_mono {K : PySem.W.Frag} {H H' : Hp} (s : ∀ b o, H b = some o → H' b = some o) : ∀ {v : V} {d : PyData}, Dp K H v d → Dp K H' v d
  | _, _, .int z => .int z
  | _, _, .str z => .str z
  | _, _, .bl z => .bl z
  | _, _, .non => .non
  | _, _, .lst h r => .lst (sqL_mono s h) (dp_monos s r)
  | _, _, .tup h r => .tup (sqT_mono s h) (dp_monos s r)
theorem dp_monos {K : PySem.W.Frag} {H H' : Hp} (s : ∀ b o, H b = some o → H' b = some o) : ∀ {vs : List V} {ds : List PyData}, DpAll K H vs ds → DpAll K H' vs ds
  | _, _, .nil => .nil
  | _, _, .cons h r => .cons (dp_mono s h) (dp_monos s r)
end
section
variable {X : Cx} {pins : List (Addr × Obj)} {σ : St} {H : Hp} {s : Shared}
theorem Inv.adopt {T : Addr} {ob : HO} (I : Inv X pins σ H s) (fp : FpOk X pins H T) (new : ObjOk X.prog X.w (upd H T ob) s.heap T ob) : Inv X pins σ (upd H T ob) s := by
  have hn : H T = none := fp.1
  refine I.step (g' := s.gens) (d' := s.drawn) (t' := s.toks) (h' := s.heap) (ch := [T]) (fun b hb => by rw [List.mem_singleton.mp hb]; exact ⟨fp.2.2.2.1, fp.2.1, fp.2.2.2.2.1, fp.2.2.2.2.2⟩) (fun b o _ _ _ e _ => e) (fun b o _ _ _ e _ => ⟨o.slots, e⟩)
    (fun b o hb e n => ?_) (fun b o _ e => ⟨o, e⟩) (fun b xs e => ?_) (fun b o u e => ?_) (fun b ps e => ⟨#[], ?_⟩) (fun m hm => hm) (fun b u e => ?_) I.bare
  · rw [upd_ne (fun z => hb (List.mem_singleton.mpr z))]; exact n
  · rw [upd_ne (ne_of_none e hn)]; exact e
  · rw [upd_ne (ne_of_none e hn)]; exact e
  · rw [upd_ne (ne_of_none e hn), e]; simp
  · by_cases hb : b = T
    · subst hb
      rw [upd_same] at e
      cases e
      exact new
    · rw [upd_ne hb] at e
      exact (I.hok b u e).stay (fun c v hc q => q) (fun c q => by rw [upd_ne (ne_of_none q hn)]; exact q) fun c xs q => by rw [upd_ne (ne_of_none q hn)]; exact q
end
section
variable {X : Cx}
noncomputable def rValuesT : V → List V → Hp → VK → Prop := fun x xs H Q => ∃ (a : Addr) (kvs : List (List L2.Key × V)), x = .ref a ∧ xs = [] ∧ H a = some (.dT kvs) ∧ ∀ p, H p = none → Q (.ref p) (upd H p (valuesO p a))
theorem mt_valuesT : MtR X "dict.values" rValuesT := by
  intro pins s σ H x xs v us Q I rx rxs h
  obtain ⟨a, kvs, rfl, rfl, ha, q⟩ := h
  cases rx
  cases rxs
  obtain ⟨z, hd, xs', rel, o, es, ep, ho, hx, hdat, _⟩ := dt_of I.hok ha
  refine call_meetsIn F.slot_dict_values ⟨o, ho, hx.1⟩ F.entry_dict_values (F.args_dict_values_1 _) (meets_dict_values_raw a hd) ⟨⟨es, ep, o, ho, hx, hdat⟩, ?_⟩
  have hf : H s.heap.objs.size = none := I.hok.fresh (Nat.le_refl _)
  exact ⟨.ref s.heap.objs.size, upd H s.heap.objs.size (valuesO s.heap.objs.size a), I.laid (t' := s.toks) (fun b u e => Heap.get?_push_of_some _ e) (Nat.le_refl _) (valuesO_ok (Heap.get?_push_size _ rfl)), rfl, q _ hf⟩
noncomputable def rSVK (X : Cx) {β : Type} (k : β → PyData) : List V → List V → Hp → VK → Prop := fun xs zs H Q => ∃ (p a fa : Addr) (kvs : List (List L2.Key × V)) (bs : List β) (Rb : V → β → Prop), xs = [.ref p] ∧ zs = [.ref fa] ∧ H p = some (valuesO p a) ∧ H a = some (.dT kvs) ∧ Paired (fun q x => Rb q.2 x) kvs bs ∧ AllAlike (bs.map k) ∧ Sortable (bs.map k) ∧ (∀ d ∈ bs.map k, d.depth ≤ 64) ∧
  (∀ (v : V) (u : Value) (x : β), RelV v u → Rb v x → x ∈ bs → ∀ (H' : Hp) (pins' : List (Addr × Obj)) (σ' : St) (s' : Shared), (∀ c o, H c = some o → H' c = some o) → Inv X pins' σ' H' s' → ∀ Qk : VK, (∀ v H'', (∀ c o, H' c = some o → H'' c = some o) → Dp X.K H'' v (k x) → Qk v H'') →
    wpAny (model X.prog X.w) X.A.in1.in1 (call (.ref fa) [u]) (EP X pins' σ' Qk) (fun _ _ => False) s') ∧
  ∀ (H' : Hp) (vs : List V) (T : Addr), (∀ b o, H b = some o → H' b = some o) → Paired Rb vs (bs.mergeSort (dataLe false k)) → H' T = none → Q (.ref T) (upd H' T (.lst vs))
theorem each_vals {β : Type} {Rb : V → β → Prop} {us : List Value} {ys : List β} (h : EachIs (fun u x => ∃ v, RelV v u ∧ Rb v x) us ys) : ∃ vs, Vals vs us ∧ Paired Rb vs ys := by
  induction h with
  | nil => exact ⟨[], .nil, .nil⟩
  | cons h1 h2 ih =>
    obtain ⟨v, r1, r2⟩ := h1
    obtain ⟨vs, i1, i2⟩ := ih
    exact ⟨v :: vs, .cons r1 i1, .cons r2 i2⟩
theorem kt_each {H : Hp} {β : Type} {Rb : V → β → Prop} {kvs : List (List L2.Key × V)} {xs : List (List L2.Key × Addr × Value)} (h : KT H kvs xs) : ∀ {bs : List β}, Paired (fun q x => Rb q.2 x) kvs bs → EachIs (fun u x => ∃ v, RelV v u ∧ Rb v x) (xs.map fun x => x.2.2) bs := by
  induction h with
  | nil => intro bs pb; cases pb; exact .nil
  | @cons p q ps qs h t ih =>
    intro bs pb
    cases pb with
    | cons r rs => exact .cons ⟨p.2, h.2.2, r⟩ (ih rs)
theorem cr_sortVK {β : Type} (k : β → PyData) (hc : X.calm = true) (hu : X.A.units + 100 < cLine) : CallRK X (.builtin "sorted") ["key"] (rSVK X k) := by
  intro pins s σ H xs zs us ws Q I r1 r2 h
  obtain ⟨p, a, fa, kvs, bs, Rb, rfl, rfl, hp, ha, pb, hal, hsk, hdp, turn, q⟩ := h
  rw [Vals.ref1 r1, Vals.ref1 r2]
  have view : s.heap.IsValuesView p a := (show ObjOk X.prog X.w H s.heap p (valuesO p a) from I.hok p _ hp).1
  obtain ⟨z, hd, xs', rel, o, es, ep, ho, hx, hdat, hes, his, hn⟩ := dt_of I.hok ha
  have l2 : es.size = xs'.length := size_of_entries hes
  have l1 : kvs.length = xs'.length := Paired.length rel
  have l3 : kvs.length = bs.length := Paired.length pb
  have K := PySem.KdlSrc.rawValues (prog := X.prog) (w := X.w) (r := p) (d := a) (es := es) (ep := ep)
  show wpAny _ _ (call (.builtin "sorted") [.ref p] [(Str.ofString "key", .ref fa)]) _ _ _
  refine sorted_valsKey (k := k) (bs := bs) (R := fun u x => ∃ v, RelV v u ∧ Rb v x) K (I.ok.hd hc) I ⟨view, o, ho, hx, hdat⟩ (by omega) (by omega) (fun vs hl hv => ?_) hal hsk (fun d hd' => by have := hdp d hd'; omega) (fun u x ⟨v, rv, rb⟩ hxm H' pins' s' hs I' Qk hQ => turn v u x rv rb hxm H' pins' σ s' hs I' Qk hQ) (fun H' H'' v d hs hd' => dp_mono hs hd') fun H' s' out T c hs I' fp hg hE => ?_
  · have e : vs = xs'.map fun x => x.2.2 := by
      refine List.ext_getElem? fun j => ?_
      rw [List.getElem?_map]
      cases hj : vs[j]? with
      | none =>
        have : xs'.length ≤ j := by have := List.getElem?_eq_none_iff.mp hj; omega
        rw [List.getElem?_eq_none this]; rfl
      | some v =>
        obtain ⟨hi, rfl⟩ := hv j v hj
        have h1 := entry_at hes j
        rw [Array.getElem?_eq_getElem hi] at h1
        cases hk : xs'[j]? with
        | none => rw [hk] at h1; cases h1
        | some y =>
          rw [hk] at h1
          have h1 : es[j] = entryOfKey (tupleKind (mixKind X.prog X.w)) y := Option.some.inj h1
          rw [h1]; rfl
    rw [e]
    exact kt_each rel pb
  · obtain ⟨vs, rv, pr⟩ := each_vals hE
    have hlen : vs.length ≤ sizeLine := by
      rw [Paired.length pr, List.length_mergeSort]; omega
    exact ⟨.ref T, upd H' T (.lst vs), I'.adopt fp ⟨hlen, out, c, rv, hg⟩, rfl, q H' vs T hs pr fp.1⟩
end
end L2
namespace Tw
open PySem PySem.Spec PyProof.Rows L2 TL
end Tw
namespace Tw
open PySem PySem.Spec PyProof.Rows L2 TL
theorem drel_vals {K : PySem.W.Frag} {F : Hp} {κ μ α : Type} [ik : Rep κ] [DecidableEq κ] {i : Rep α} {e : κ → μ} {kvs : List (κ × V)} {l : List (κ × α)} (h : DRel i K F kvs l) : Paired (fun (q : μ × V) x => i.rp K F q.2 x) (kvs.map fun p => (e p.1, p.2)) (l.map (·.2)) := by
  induction h with
  | nil => exact .nil
  | cons r _ ih => exact .cons r.2 ih
theorem noMA {β : Type} {i : Rep β} {x : β} {b : Addr} : ¬ MA [.val i x] b := fun ⟨o, h, _⟩ => by
  rcases List.mem_cons.mp h with z | z
  · cases z
  · exact (List.not_mem_nil z).elim
theorem apart_v1 {β : Type} {i : Rep β} {x : β} : Apart [.val i x] := fun p q o1 o2 _ h => by
  cases p with
  | zero => cases h
  | succ p => cases h
section
variable {X : Cx} {Γ : List Slot} {α β γ : Type} {i : Rep α} {j : Rep γ} {pos p p2 p3 : Pos} {e a b c : Expr} {es : List Expr} {E : SE} {rest : List Stmt}
theorem en_sortedVals (m : Nat) {n fn : Str} {k0 : Nat} {p1 : Str} {S : Spec} {ad : Addr} {l : List (Tup Tx × α)} {kf : α → γ} [h2 : IsD γ] {ap1 cp1 kp kp2 : Pos} (hm : X.mg "sorted" = none) (G : Has X.prog X.w X.K X.mg X.base k0 fn [p1] S) (hr : Room (k0 + 2) X.A)
    (hS : ∀ x ∈ l.map (·.2), ∀ P' R', P' (.val j (kf x)) → S [.val i x] P' R') (hal : PySem.W.AllAlike ((l.map (·.2)).map fun x => (h2.d (kf x)).py)) (hsk : PySem.W.Sortable ((l.map (·.2)).map fun x => (h2.d (kf x)).py)) (hdp : ∀ x ∈ l.map (·.2), ((h2.d (kf x)).py).depth ≤ 64)
    (hgm : autoParam (Γ[m]? = some (.own (ownD (Tup Tx) i ad l))) aRfl) (hN : autoParam (X.N[m]? = some n) aRfl) (hv : autoParam (Vis X.env.scope n) aVis) (hd : autoParam ((n == ("__debug__" : Str)) = false) aDec) (hcd : autoParam ((n == ("__classdict__" : Str)) = false) aDec)
    (hc : autoParam (X.calm = true) aRfl) (hg : autoParam (Gl X "sorted") aRfl) (hg2 : autoParam (Gl X fn) aRfl) (hd2 : autoParam ((fn == ("__debug__" : Str)) = false) aDec)
    (hb1 : autoParam (attributeBase (.Name n p2) "values" X.env (eval (.Name n p2) X.env) = eval (.Name n p2) X.env) aRfl) (hl1 : autoParam ((ap1.endLine == cp1.line) = true) aRfl)
    (hs : autoParam (starEach [.Call (.Attribute (.Name n p2) "values" ap1) [] [] cp1] X.env = (false, eval (.Call (.Attribute (.Name n p2) "values" ap1) [] [] cp1) X.env) :: starEach [] X.env) aStar)
    (he : autoParam (backTo pos (starEach [.Call (.Attribute (.Name n p2) "values" ap1) [] [] cp1] X.env) = (false, eval (.Call (.Attribute (.Name n p2) "values" ap1) [] [] cp1) X.env) :: backTo pos (starEach [] X.env)) aRfl) (hpl : autoParam ((backTo pos (starEach [.Call (.Attribute (.Name n p2) "values" ap1) [] [] cp1] X.env)).any (·.1) = false) aRfl)
    (hall : autoParam ((backToKw pos (keywordEach [⟨some "key", .Name fn kp2, kp⟩] X.env)).all (·.1.isSome) = true) aRfl) (hnone : autoParam ((backToKw pos (keywordEach [⟨some "key", .Name fn kp2, kp⟩] X.env)).any (·.1.isNone) = false) aRfl)
    (hks : autoParam ((backToKw pos (keywordEach [⟨some "key", .Name fn kp2, kp⟩] X.env)).filterMap (·.1) = [Str.ofString "key"]) aRfl) :
    EN X Γ (.Call (.Name "sorted" p) [.Call (.Attribute (.Name n p2) "values" ap1) [] [] cp1] [⟨some "key", .Name fn kp2, kp⟩] pos) ((l.map (·.2)).mergeSort (PySem.W.dataLe false fun x => (h2.d (kf x)).py)) := fun B F H σ Q L q => by
  obtain ⟨f, fd, hmf, hkp, hb, GF⟩ := G.ex
  obtain ⟨v, ev, ⟨rfl, kvs, ha, pr⟩, fo⟩ := slot_own L hgm
  have hdT : H ad = some (.dT (kvs.map fun p => (p.1.l.map KPart.en, p.2))) := ha
  refine WE.of (pe_callBK (cr_sortVK (fun x => (h2.d (kf x)).py) hc (by have := hr.un; omega)) hg hm (by decide +kernel) (pa_cons (pe_bm0 PySem.F.plainAttrs_dict PySem.F.slot_dict_values PySem.F.type_dict_values mt_valuesT (pe_var hN hv hd hcd) hb1 hl1) pa_nil hs) (pk_cons (pe_glob (v := .ref f) hg2 hmf rfl hd2) pk_nil) (by decide) (by decide) he hpl hall hnone hks) ?_
  refine ⟨_, ev, .inr (.inr (.inl ⟨rfl, .inr ⟨_, hdT⟩⟩)), ad, _, rfl, rfl, hdT, fun p0 hp0 => ?_⟩
  have hpad : ad ≠ p0 := fun z => by rw [z, hp0] at hdT; cases hdT
  have s1 : ∀ c o, H c = some o → upd H p0 (valuesO p0 ad) c = some o := fun c o h => by rw [upd_ne (ne_of_none h hp0)]; exact h
  refine ⟨p0, ad, f, _, l.map (·.2), fun v x => i.rp X.K F v x, rfl, rfl, upd_same, s1 _ _ hdT, ?_, hal, hsk, fun d hd' => ?_, fun v u x rv rb hx H' pins' σ' s' hs' I' Qk hQ => ?_, fun H' vs T hs' pv hT => ?_⟩
  · exact drel_vals (e := fun x : Tup Tx => x.l.map KPart.en) pr
  · obtain ⟨x, hx, rfl⟩ := List.mem_map.mp hd'
    exact hdp x hx
  · have sF : Same F H' := fun c o h => hs' _ _ (s1 _ _ (L.same _ _ h))
    have hr2 : Room k0 X.A.in1.in1 := (hr.in1).in1
    refine wpAny_call (codeAny_mono (GF.run X.A.in1.in1 X.stack s' H' ⟨[u], []⟩ [u] [v] Qk (fun _ _ _ => False) hr2 I'.env0.in1.in1 (by simpa using hb s' [u] I'.kIn rfl) (.cons rv .nil) ?_) fun r s'' hq => ?_)
    · refine ⟨F, [.val i x], sF, ?_, ?_, hS x hx _ _ fun w F' H'' ex ok => ?_⟩
      · exact ⟨rb, trivial⟩
      · exact apart_v1
      · exact hQ w H'' (fun c o h => ex.hh c o noMA h) (rpD_dp _ _ (rpD_mono ex.fh _ _ (h2.iff.mp ok)))
    · cases r with
      | error e => exact False.elim (by obtain ⟨_, _, _, _, _, _, _, _, _, _, _, _, hF⟩ := (hq : L2.CX _ _ _ _ _ _ _ _); exact hF)
      | ok fl =>
        cases fl with
        | ret u => exact I'.after hq
        | next => exact False.elim hq
        | brk => exact False.elim hq
        | cont => exact False.elim hq
  · have hTH : H T = none := by
      cases q1 : H T with
      | none => rfl
      | some o => rw [hs' _ _ (s1 _ _ q1)] at hT; cases hT
    have ex : Ext F H F (upd H' T (.lst vs)) := ⟨Same.refl F, fun c o h => by rw [upd_ne (ne_of_none (hs' _ _ (s1 _ _ (L.same _ _ h))) hT)]; exact hs' _ _ (s1 _ _ (L.same _ _ h)), fun c o _ h => by rw [upd_ne (ne_of_none (hs' _ _ (s1 _ _ h)) hT)]; exact hs' _ _ (s1 _ _ h), fun _ _ h _ => h, fun _ z => z.elim⟩
    exact q T vs F _ ex hTH (L.same.free hTH) upd_same pv
end
end Tw
namespace L2
open PySem PySem.Spec PyProof.Rows PySem.W PySem.Calls
end L2
namespace Tw
open PySem PySem.Spec PyProof.Rows L2 TL
noncomputable abbrev T2x := Tx × Tx
noncomputable def ownK (q : Addr) (x : T2x) : Own where
  fp := [q]
  root := .ref q
  ok := fun K F H v => v = .ref q ∧ H q = some (.tup [.str (sx x.1), .str (sx x.2)])
  stay := fun s k ⟨e, h⟩ => ⟨e, k q (List.mem_singleton.mpr rfl) _ h⟩
  there := fun ⟨_, h⟩ b hb z => by rw [List.mem_singleton.mp hb, h] at z; cases z
  rt := fun h => h.1
noncomputable def NoTup (o : Own) : Prop := ∀ K F H v, o.ok K F H v → ∀ b ∈ o.fp, ∀ vs, H b ≠ some (.tup vs)
section
variable {K : PySem.W.Frag} {B : Bs} {F H F' H' : Hp} {σ : L2.St} {Γ : List Slot} {α : Type} {i : Rep α}
noncomputable abbrev bsK (B : Bs) (q : Addr) : Bs := ⟨B.F, B.H, fun b => B.M b ∨ b = q⟩
theorem Lc.key {k : Nat} {q : Addr} {x : T2x} (L : Lc K B F H σ Γ) (hq : H q = some (.tup [.str (sx x.1), .str (sx x.2)])) (fq : F q = none) (nt : ∀ (j : Nat) o, Γ[j]? = some (.own o) → NoTup o) : Lc K (bsK B q) F H (σ.set k (some (.ref q))) (Γ.set k (.own (ownK q x))) := by
  refine ⟨⟨L.ext.ff, L.ext.fh, fun b o nb h => L.ext.hh b o (fun z => nb (.inl z)) h, fun a na h1 h2 => L.ext.nwM a (fun z => na (.inl z)) h1 h2, fun a ha h => ?_⟩, by simp [L.len], fun j t h => ?_, L.ap.putO k fun j o' _ h b hb hb' => ?_⟩
  · rcases ha with ha | rfl
    · exact L.there a ha h
    · rw [hq]; exact fun z => nomatch z
  · rw [get_set_join]
    rcases get_set_slot h with ⟨e1, e2, rfl⟩ | ⟨e1, h⟩
    · rw [if_pos ⟨e1, by rw [L.len]; exact e2⟩]
      exact ⟨_, rfl, ⟨rfl, hq⟩, fun b hb => by rw [List.mem_singleton.mp hb]; exact ⟨fq, .inr (.inr rfl)⟩⟩
    · rw [if_neg fun z => e1 z.1]
      have := L.ok j t h
      cases t with
      | no => trivial
      | val i x => exact this
      | own o =>
        obtain ⟨v, e, ok, f⟩ := this
        exact ⟨v, e, ok, fun b hb => ⟨(f b hb).1, (f b hb).2.imp id .inl⟩⟩
  · rw [List.mem_singleton.mp hb] at hb'
    obtain ⟨v, _, ok, _⟩ := slot_own L h
    exact nt j o' h _ _ _ _ ok q hb' _ hq
end
end Tw
namespace Tw
open PySem PySem.Spec PyProof.Rows L2 TL
end Tw
namespace Tw
open PySem PySem.Spec PyProof.Rows L2 TL
end Tw
namespace Tw
open PySem PySem.Spec PyProof.Rows L2 TL
end Tw
namespace Tw
open PySem PySem.Spec PyProof.Rows L2 TL
end Tw
namespace Tw
open PySem PySem.Spec PyProof.Rows L2 TL
structure DfD (K : PySem.W.Frag) (mg : Str → Option Value) (n : Str) (st : Stmt) (ps : List Str) : Prop where
  ex : ∃ f fd, FunD K n n (defArgs st) (defBody st) (defScope st) [V.non] [] f fd ∧ Binds K fd ps [] ∧ Binds K fd ps [Value.none] ∧ mg n = some (.ref f)
structure HasD (P : Program) (w : World) (K : PySem.W.Frag) (mg : Str → Option Value) (base : Heap) (k : Nat) (n : Str) (ps : List Str) (S : Spec) : Prop where
  ex : ∃ f fd, mg n = some (.ref f) ∧ PySem.W.keepIn K (.ref f) = true ∧ Binds K fd ps [] ∧ Binds K fd ps [Value.none] ∧ FnOk P w K mg base (L2.CX P w) k f fd ps (spOf K S)
section
variable {P : Program} {w : World} {K : PySem.W.Frag} {mg : Str → Option Value} {base : Heap}
theorem HasD.of {n : Str} {st : Stmt} {N ps : List Str} {k : Nat} {S : Spec} (D : DfD K mg n st ps) (sc : FnScope N ps (defScope st)) (len : ∀ A Q R, S A Q R → A.length = ps.length)
    (body : ∀ (f : Addr) (cdv : Value) (A : Around) (outer : List Env) (s : Shared) (H : Hp) (E : XK), Room k (A.deeper (envOfC n (defScope st) s.heap.objs.size f cdv)) → ∀ Γ Q R, S Γ Q R →
      ST (cxOf (L2.CX P w) P w K mg base N n (defScope st) f cdv A outer s H E) (defBody st) (Γ ++ List.replicate (N.length - ps.length) .no) (finX Q R)) :
    HasD P w K mg base (k + 1) n ps S := by
  obtain ⟨f, fd, F, hb, hb2, hm⟩ := D.ex
  refine ⟨f, fd, hm, F.kp, hb, hb2, F.ok sc (fun vs H Q E ⟨F0, A, s, r, ap, h⟩ => ?_) (fun cdv A outer s H vs Q E hr h => ?_)⟩
  · rw [r.len]; exact len _ _ _ h
  · obtain ⟨F0, A0, sm, r, ap, h⟩ := h
    refine ⟨_, psW, ?_⟩
    have hl := len _ _ _ h
    have L0 := lc_start (K := K) sm r ap (N.length - ps.length)
    have L1 : Lc K ⟨F0, H, MA A0⟩ F0 H (L2.start N vs) (A0 ++ List.replicate (N.length - ps.length) .no) := by
      unfold L2.start
      rw [show vs.length = ps.length from r.len.trans hl]
      exact L0
    refine body f cdv A outer s H E hr A0 _ _ h ⟨F0, H, MA A0⟩ F0 H _ _ L1 ⟨fun F' H' σ' Γ' _ hq L => ?_, fun r v F' H' hq ex ok => hq v F' H' ex ok, fun _ _ _ _ _ z => z.elim, fun _ _ _ _ _ z => z.elim, fun F1 H1 σ' Γ' x u d _ hq L ok => ?_⟩
    · exact hq .non F' H' L.ext rfl
    · exact XW.of (L2.takes_of rfl rfl rfl rfl) (hq u d F1 H1 L.ext (ok.imp fun b h => h.1))
end
end Tw
namespace L2
open PySem PySem.Spec PyProof.Rows PySem.Calls
end L2
namespace Tw
open PySem PySem.Spec PyProof.Rows L2 TL
noncomputable instance isdOpt {α : Type} [i : Rep α] [h : IsD α] : IsD (Option α) := ⟨fun x => match x with | none => .n | some y => h.d y, by
  intro K F v x
  cases x with
  | none => show v = .non ↔ _; rw [rpD]
  | some y => exact h.iff⟩
end Tw
namespace L2
open PySem PySem.Spec PyProof.Rows PySem.W PySem.Calls
end L2
namespace Tw
open PySem PySem.Spec PyProof.Rows L2 TL
noncomputable abbrev rb (B : Bs) (F' H' : Hp) : Bs := ⟨F', H', fun b => B.nw b ∧ F' b = none⟩
end Tw
namespace Tw
open PySem PySem.Spec PyProof.Rows L2 TL NdefX LamX
noncomputable def CellX (a : Addr) (o : Obj) : HO := .ext fun h => h.get? a = some o
noncomputable abbrev Cells := List (Addr × Obj)
noncomputable def isC (cs : Cells) (b : Addr) : Prop := ∃ o, (b, o) ∈ cs
noncomputable def HasC (cs : Cells) (H : Hp) : Prop := ∀ p ∈ cs, H p.1 = some (CellX p.1 p.2)
theorem HasC.at {cs : Cells} {H : Hp} (h : HasC cs H) {b : Addr} (hb : isC cs b) : ∃ o, H b = some (CellX b o) := by
  obtain ⟨o, ho⟩ := hb
  exact ⟨o, h (b, o) ho⟩
end Tw
namespace Tw
open PySem PySem.Spec PyProof.Rows L2 TL NdefX LamX
section
variable {X : Cx} {Γ : List Slot} {α β : Type} {i : Rep α} {j : Rep β} {pos p : Pos} {e a b : Expr} {es : List Expr} {E : SE} {rest : List Stmt}
noncomputable def tbl1 (pos : Pos) (c : Addr) : Array Value := #[rawInt pos.line, rawInt pos.col, .ref c]
structure Tb where
  at_ : Addr
  pos : Pos
  q : Str
noncomputable def TbOk (T : Tb) (F H : Hp) : Prop := F T.at_ = none ∧ (H T.at_ = some (.tbl #[]) ∨ ∃ c, H T.at_ = some (.tbl (tbl1 T.pos c)) ∧ F c = some (CodeO c T.q))
noncomputable def TbsF (T : List Tb) (F H : Hp) : Prop := ∀ p ∈ T, TbOk p F H
noncomputable def isT (T : List Tb) (b : Addr) : Prop := ∃ p ∈ T, p.at_ = b
structure TbsIn (T : List Tb) (B : Bs) (F H : Hp) (Γ : List Slot) : Prop where
  f : TbsF T F H
  nw : ∀ b, isT T b → B.nw b
  fr : ∀ b, isT T b → Free Γ b
theorem TbOk.ne {T : Tb} {F H : Hp} (h : TbOk T F H) : H T.at_ ≠ none := by
  rcases h.2 with z | ⟨c, z, _⟩
  · rw [z]; exact fun q => nomatch q
  · rw [z]; exact fun q => nomatch q
theorem TbsF.ne {T : List Tb} {F H : Hp} (h : TbsF T F H) {b : Addr} (hb : isT T b) : H b ≠ none := by
  obtain ⟨p, hp, rfl⟩ := hb
  exact (h p hp).ne
theorem TbsF.fn {T : List Tb} {F H : Hp} (h : TbsF T F H) {b : Addr} (hb : isT T b) : F b = none := by
  obtain ⟨p, hp, rfl⟩ := hb
  exact (h p hp).1
theorem TbsF.stepM {T : List Tb} {M : Addr → Prop} {F H F' H' : Hp} (h : TbsF T F H) (e : ExtM M F H F' H') (nm : ∀ b, isT T b → ¬ M b) : TbsF T F' H' := fun p hp => by
  have ib : isT T p.at_ := ⟨p, hp, rfl⟩
  refine ⟨e.nwM _ (nm _ ib) (h p hp).1 (h p hp).ne, ?_⟩
  rcases (h p hp).2 with z | ⟨c, z, q⟩
  · exact .inl (e.hh _ _ (nm _ ib) z)
  · exact .inr ⟨c, e.hh _ _ (nm _ ib) z, e.ff _ _ q⟩
theorem TbsIn.step {T : List Tb} {B : Bs} {F H F' H' : Hp} (h : TbsIn T B F H Γ) (e : Ext F H F' H') : TbsIn T B F' H' Γ := ⟨h.f.stepM e fun _ _ z => z, h.nw, h.fr⟩
theorem ExtM.of {M : Addr → Prop} {F H F' H' : Hp} (e : Ext F H F' H') : ExtM M F H F' H' := ⟨e.ff, e.fh, fun b o _ q => e.hs b o q, fun b _ h1 h2 => e.nw b h1 h2, fun b _ h => by
  cases q : H b with
  | none => exact absurd q h
  | some o => rw [e.hs b o q]; exact fun z => nomatch z⟩
structure EDT (T : List Tb) (X : Cx) (B : Bs) (F0 : Hp) (E : SE) (D : Ends) : Prop where
  nx : ∀ F H σ Γ, Same F0 F → E.nx Γ → Lc X.K B F H σ Γ → TbsIn T B F H Γ → D.nx σ H
  rt : ∀ r v F H, E.rt r → ExtM B.M B.F B.H F H → TbsF T F H → ROk X.K (fun b => B.nw b ∧ ¬ isT T b) F H v r → D.rt v H
theorem EDT.weak {T : List Tb} {B : Bs} {F0 F1 : Hp} {D : Ends} (h : EDT T X B F0 E D) (s : Same F0 F1) : EDT T X B F1 E D := ⟨fun F H σ Γ q => h.nx F H σ Γ (s.trans q), h.rt⟩
end
end Tw
namespace Tw
open PySem PySem.Spec PyProof.Rows L2 TL NdefX LamX
section
variable {X : Cx} {Γ : List Slot} {α β : Type} {i : Rep α} {j : Rep β} {pos p : Pos} {e a b : Expr} {es : List Expr} {E : SE} {rest : List Stmt} {T : List Tb}
theorem TbsF.ext {F H F' H' : Hp} (h : TbsF T F H) (e : ExtM (isT T) F H F' H') (h' : ∀ b, isT T b → F' b = none) (nt : ∀ p ∈ T, H' p.at_ = H p.at_ ∨ ∃ c, H' p.at_ = some (.tbl (tbl1 p.pos c)) ∧ F' c = some (CodeO c p.q)) : TbsF T F' H' := fun p hp => by
  refine ⟨h' _ ⟨p, hp, rfl⟩, ?_⟩
  rcases nt p hp with z | z
  · rcases (h p hp).2 with y | ⟨c, y, q⟩
    · exact .inl (z.trans y)
    · exact .inr ⟨c, z.trans y, e.ff _ _ q⟩
  · exact .inr z
end
end Tw
namespace Tw
open PySem PySem.Spec PyProof.Rows L2 TL NdefX LamX
end Tw
namespace Tw
open PySem PySem.Spec PyProof.Rows L2 TL NdefX LamX
end Tw
namespace Tw
open PySem PySem.Spec PyProof.Rows L2 TL NdefX LamX
end Tw
namespace L2
open PySem PySem.Spec PyProof.Rows PySem.W
end L2
namespace Tw
open PySem PySem.Spec PyProof.Rows L2 TL
end Tw
namespace L2
open PySem PySem.Spec PyProof.Rows PySem.W
end L2
namespace Tw
open PySem PySem.Spec PyProof.Rows L2 TL
end Tw
namespace L2
open PySem PySem.Spec PyProof.Rows PySem.W PySem.Calls
end L2
namespace Tw
open PySem PySem.Spec PyProof.Rows L2 TL
end Tw
namespace L2
open PySem PySem.Spec PyProof.Rows PySem.W PySem.Calls
end L2
namespace Tw
open PySem PySem.Spec PyProof.Rows L2 TL
end Tw
namespace Tw
open PySem PySem.Spec PyProof.Rows L2 TL
structure Ptr where
  b : Addr
noncomputable instance repPtr : Rep Ptr := ⟨fun _ _ v x => v = .ref x.b, fun _ h => h⟩
noncomputable instance : Flat Ptr := ⟨fun h => h⟩
end Tw
namespace Tw
open PySem PySem.Spec PyProof.Rows L2 TL
end Tw
namespace Tw
open PySem PySem.Spec PyProof.Rows L2 TL
end Tw
namespace L2
open PySem PySem.Spec PyProof.Rows PySem.W PySem.Calls
end L2
namespace L2
open PySem PySem.Spec PyProof.Rows PySem.W PySem.Calls
section
variable {X : Cx}
theorem vals_each {β : Type} {Rb : V → β → Prop} : ∀ {ws : List V} {us : List Value} {bs : List β}, Vals ws us → Paired Rb ws bs → EachIs (fun u x => ∃ v, RelV v u ∧ Rb v x) us bs
  | _, _, _, .nil, .nil => .nil
  | _, _, _, .cons r rs, .cons p ps => .cons ⟨_, r, p⟩ (vals_each rs ps)
end
end L2
namespace Tw
open PySem PySem.Spec PyProof.Rows L2 TL
end Tw
namespace Tw
open PySem PySem.SeqAt PySem.Spec PyProof.Rows L2 TL
noncomputable def repAwayL {α : Type} [i : Rep α] (F0 : Hp) : Rep (List α) := ⟨fun K F v x => ∃ a vs, v = .ref a ∧ F a = some (.lst vs) ∧ Paired (fun u y => i.rp K F u y) vs x ∧ F0 a = none,
  fun s ⟨a, vs, e, h, p, n⟩ => ⟨a, vs, e, s _ _ h, Paired.mapP p fun _ _ q => i.mono s q, n⟩⟩
noncomputable def repGho {α : Type} (i : Rep α) (F0 : Hp) : Rep α := ⟨fun K F v x => i.rp K F v x ∧ Same F0 F, fun s h => ⟨i.mono s h.1, h.2.trans s⟩⟩
noncomputable abbrev PI := List Tx × Int
theorem pmem {A B : Type} {F : A → B → Prop} : ∀ {l : List A} {m : List B}, Paired F l m → Paired (fun a b => F a b ∧ a ∈ l) l m
  | _, _, .nil => .nil
  | _, _, .cons h t => .cons ⟨h, List.mem_cons_self ..⟩ (Paired.mapP (pmem t) fun _ _ q => ⟨q.1, List.mem_cons_of_mem _ q.2⟩)
theorem pget {A B : Type} {F : A → B → Prop} {a : A} : ∀ {l : List A} {m : List B}, Paired F l m → a ∈ l → ∃ b, F a b
  | _, _, .nil, h => (List.not_mem_nil h).elim
  | _, _, .cons h t, hm => by
    rcases List.mem_cons.mp hm with rfl | hm
    · exact ⟨_, h⟩
    · exact pget t hm
noncomputable def repAny : Rep Unit := ⟨fun _ _ _ _ => True, fun _ _ => trivial⟩
section
variable {X : Cx} {Γ : List Slot} {α β γ δ : Type} {i : Rep α} {j : Rep β} {lr : Rep γ} {pos p p0 p2 p3 : Pos} {e a b c elt tg it : Expr} {es : List Expr} {E : SE} {rest sts body : List Stmt}
theorem Lc.ghost {K : PySem.W.Frag} {B : Bs} {F H : Hp} {σ : L2.St} (L : Lc K B F H σ Γ) {k : Nat} {x : α} (hk : Γ[k]? = some (.val i x)) : Lc K B F H σ (Γ.set k (.val (repGho i F) x)) := by
  refine ⟨L.ext, by simp [L.len], fun q t hq => ?_, L.ap.put k rfl⟩
  rcases get_set_slot hq with ⟨e1, e2, rfl⟩ | ⟨e1, hq'⟩
  · subst e1
    obtain ⟨v, ev, r⟩ := slot_val L hk
    rw [ev]
    exact ⟨v, rfl, r, Same.refl F⟩
  · exact L.ok q t hq'
end
end Tw
namespace TT
open PySem PySem.Spec PyProof.Rows L2
noncomputable def orb (m : Nat) : Nat → Nat → Nat → Nat
  | 0, _, acc => acc
  | f + 1, i, acc => bif Nat.ble i m && Nat.ble acc (2 ^ 4096) then orb m f ((i * 5 + 1) % (m + 1)) (acc ||| 2 ^ i) else 0
noncomputable def lst (m : Nat) : Nat → Nat → Nat
  | 0, i => i
  | f + 1, i => bif Nat.ble i m then lst m f ((i * 5 + 1) % (m + 1)) else 1
theorem lcgI_front (m i : Nat) : ∀ k, lcgI m ((i * 5 + 1) % (m + 1)) k = lcgI m i (k + 1)
  | 0 => rfl
  | k + 1 => congrArg (fun z => (z * 5 + 1) % (m + 1)) (lcgI_front m i k)
theorem orb_has (m j : Nat) : ∀ f i acc, (orb m f i acc).testBit j = true → acc.testBit j = true ∨ ∃ b, b < f ∧ lcgI m i b = j
  | 0, i, acc, h => .inl h
  | f + 1, i, acc, h => by
    unfold orb at h
    cases c : (Nat.ble i m && Nat.ble acc (2 ^ 4096)) with
    | false => rw [c, cond_false, Nat.zero_testBit] at h; exact nomatch h
    | true =>
      rw [c, cond_true] at h
      rcases orb_has m j f _ _ h with h | ⟨b, hb, e⟩
      · rw [Nat.testBit_or, Bool.or_eq_true, Nat.testBit_two_pow] at h
        rcases h with h | h
        · exact .inl h
        · exact .inr ⟨0, Nat.succ_pos _, of_decide_eq_true h⟩
      · exact .inr ⟨b + 1, Nat.succ_lt_succ hb, (lcgI_front m i b).symm.trans e⟩
theorem lst_is (m : Nat) : ∀ f i, lst m f i = 0 → lcgI m i f = 0
  | 0, i, h => h
  | f + 1, i, h => by
    unfold lst at h
    cases c : Nat.ble i m with
    | false => rw [c, cond_false] at h; exact nomatch h
    | true => rw [c, cond_true] at h; exact (lcgI_front m i f).symm.trans (lst_is m f _ h)
structure Full (m : Nat) : Prop where
  all : ∀ j, j ≤ m → ∃ b, b ≤ m ∧ lcgN m b = j
  round : lcgN m (m + 1) = 0
  odd : m % 2 = 1
theorem lcgN_I (m b : Nat) : lcgI m 0 b = lcgN m b := by
  have h := lcgN_add m 0 b
  rw [Nat.zero_add] at h
  exact h
theorem Full.of {m : Nat} (h1 : orb m (m + 1) 0 0 = 2 ^ (m + 1) - 1) (h2 : lst m (m + 1) 0 = 0) (h3 : m % 2 = 1) : Full m := by
  refine ⟨fun j hj => ?_, (lcgN_I m _).symm.trans (lst_is m _ _ h2), h3⟩
  have hb : (orb m (m + 1) 0 0).testBit j = true := by
    rw [h1, Nat.testBit_two_pow_sub_one]
    exact decide_eq_true (Nat.lt_succ_of_le hj)
  rcases orb_has m j _ _ _ hb with h | ⟨b, hb, e⟩
  · rw [Nat.zero_testBit] at h; exact nomatch h
  · exact ⟨b, Nat.le_of_lt_succ hb, (lcgN_I m b).symm.trans e⟩
theorem full7 : Full 7 := Full.of (by decide +kernel) (by decide +kernel) rfl
theorem full31 : Full 31 := Full.of (by decide +kernel) (by decide +kernel) rfl
theorem full127 : Full 127 := Full.of (by decide +kernel) (by decide +kernel) rfl
theorem full511 : Full 511 := Full.of (by decide +kernel) (by decide +kernel) rfl
theorem full2047 : Full 2047 := Full.of (by decide +kernel) (by decide +kernel) rfl
noncomputable def Msk (m : Nat) : Prop := m = 7 ∨ m = 31 ∨ m = 127 ∨ m = 511 ∨ m = 2047
theorem Msk.full {m : Nat} (h : Msk m) : Full m := by
  rcases h with rfl | rfl | rfl | rfl | rfl
  · exact full7
  · exact full31
  · exact full127
  · exact full511
  · exact full2047
theorem Full.mod {m : Nat} (F : Full m) : ∀ k, lcgN m (m + 1 + k) = lcgN m k
  | 0 => F.round
  | k + 1 => congrArg (fun z => (z * 5 + 1) % (m + 1)) (F.mod k)
theorem Full.from {m : Nat} (F : Full m) {i j : Nat} (hi : i ≤ m) (hj : j ≤ m) : ∃ k, k ≤ m ∧ lcgI m i k = j := by
  obtain ⟨a, a1, rfl⟩ := F.all i hi
  obtain ⟨b, b1, rfl⟩ := F.all j hj
  by_cases c : a ≤ b
  · exact ⟨b - a, by omega, by rw [lcgN_add, Nat.add_sub_cancel' c]⟩
  · refine ⟨b + (m + 1) - a, by omega, ?_⟩
    rw [lcgN_add, show a + (b + (m + 1) - a) = m + 1 + b by omega, F.mod]
theorem Full.meet {m : Nat} (F : Full m) (h : Int) {j : Nat} (hj : j ≤ m) : ∃ n, n ≤ m + 12 ∧ runI m (SetTable.bits h) n = j := by
  obtain ⟨k, k1, k2⟩ := F.from (runI_le m (SetTable.bits h) 12) hj
  refine ⟨12 + k, by omega, ?_⟩
  rw [runI_tail (bits_lt h), k2]
theorem way_in (m : Nat) (h : Int) (k : Nat) : way m h k ≤ m := by
  have lo : SetTable.bits h % (m + 1) ≤ m := Nat.le_of_lt_succ (Nat.mod_lt _ m.succ_pos)
  have r := runEnd_bd lo
  refine Nat.le_trans (Nat.le_add_right _ _) (nth_in k (runAt m (SetTable.bits h % (m + 1)) (SetTable.bits h)) ?_)
  unfold runAt
  dsimp only
  omega
theorem Full.met {m : Nat} (F : Full m) (h : Int) {j : Nat} (hj : j ≤ m) : ∃ k, k < 10 * SetTable.turns m ∧ way m h k = j := by
  obtain ⟨n, n1, n2⟩ := F.meet h hj
  obtain ⟨k, k1, k2⟩ := run_nth m (SetTable.bits h) n
  refine ⟨k, by unfold SetTable.turns; omega, ?_⟩
  unfold way
  rw [k2]
  exact n2
structure Tb (t : SetTable) (hs : List Int) : Prop where
  ris : Ris t.place.toList
  dm : t.dummies = #[]
  sz : t.place.size = hs.length
  full : Full t.mask
  bd : ∀ x ∈ t.place.toList, x ≤ t.mask
  reach : ∀ (i : Nat) (h : Int) (j : Nat), hs[i]? = some h → t.place.toList[i]? = some j → ∃ k, way t.mask h k = j ∧ ∀ k', k' < k → way t.mask h k' ∈ t.place.toList
theorem Tb.len {t : SetTable} {hs : List Int} (T : Tb t hs) : t.place.toList.length = hs.length := T.sz
theorem Tb.hole {t : SetTable} {hs : List Int} (T : Tb t hs) (few : hs.length ≤ t.mask) (h : Int) : ∃ K, K < 10 * SetTable.turns t.mask ∧ way t.mask h K ∉ t.place.toList ∧ ∀ k, k < K → way t.mask h k ∈ t.place.toList := by
  obtain ⟨j, j1, j2⟩ := st_missing t.place.toList (t.mask + 1) (by rw [T.len]; omega)
  obtain ⟨k, k1, k2⟩ := T.full.met h (Nat.le_of_lt_succ j1)
  obtain ⟨K, q1, q2, q3⟩ := st_least (p := fun n => ¬ way t.mask h n ∈ t.place.toList) k (by rw [k2]; exact j2)
  exact ⟨K, Nat.lt_of_le_of_lt q1 k1, q2, fun n hn => Classical.not_not.mp (q3 n hn)⟩
theorem Tb.ahead {t : SetTable} {hs : List Int} (T : Tb t hs) {h : Int} {K i j : Nat} (free : way t.mask h K ∉ t.place.toList) (hi : hs[i]? = some h) (hj : t.place.toList[i]? = some j) : ∃ k, k < K ∧ way t.mask h k = j := by
  obtain ⟨k, e, z⟩ := T.reach i h j hi hj
  refine ⟨k, Nat.lt_of_not_le fun c => ?_, e⟩
  rcases Nat.lt_or_eq_of_le c with c | c
  · exact free (z K c)
  · exact free (by rw [c, e]; exact List.mem_of_getElem? hj)
theorem Tb.add {t : SetTable} {hs : List Int} (T : Tb t hs) {h : Int} {K : Nat} (free : way t.mask h K ∉ t.place.toList) (occ : ∀ k, k < K → way t.mask h k ∈ t.place.toList) {j p : Nat} (ej : way t.mask h K = j) (ep : SetTable.below t.place j = p) :
    (t.put j).2 = p ∧ p ≤ hs.length ∧ Tb (t.put j).1 (hs.take p ++ h :: hs.drop p) ∧ (t.put j).1.mask = t.mask ∧ (t.put j).1.led = t.led ∧ (t.put j).1.fill = hs.length + 1 := by
  have top : j ≤ t.mask := ej ▸ way_in t.mask h K
  rw [ej] at free
  have cut := (below_cut T.ris j).1
  have p1 : p ≤ t.place.toList.length := ep ▸ cut
  have p2 : p ≤ hs.length := T.len ▸ p1
  have pl : (t.put j).1.place.toList = t.place.toList.take p ++ j :: t.place.toList.drop p := by rw [put_place, ep]
  have nd := put_dm T.dm j
  have sz : (t.put j).1.place.size = hs.length + 1 := by rw [← T.len, ← len_ins _ p1 j, ← pl, Array.length_toList]
  have keep : ∀ x, x ∈ t.place.toList → x ∈ (t.put j).1.place.toList := fun x hx => pl ▸ mem_ins.2 (.inr hx)
  have new : t.place[SetTable.below t.place j]? ≠ some j := fun z => free (List.mem_of_getElem? (Array.getElem?_toList ▸ z))
  refine ⟨ep, p2, ⟨ris_insert T.ris new, nd, sz.trans (len_ins _ p2 h).symm, T.full, fun x hx => ?_, fun i h' j' e1 e2 => ?_⟩, rfl, rfl, ?_⟩
  · rw [pl] at hx
    exact (mem_ins.1 hx).elim (fun e => e ▸ top) (T.bd x)
  · have old : ∀ i0, hs[i0]? = some h' → t.place.toList[i0]? = some j' → ∃ k, way t.mask h' k = j' ∧ ∀ k', k' < k → way t.mask h' k' ∈ (t.put j).1.place.toList := fun i0 a b => by
      obtain ⟨k, k1, k2⟩ := T.reach i0 h' j' a b
      exact ⟨k, k1, fun k' hk => keep _ (k2 k' hk)⟩
    rw [tins_get _ p2] at e1
    rw [pl, tins_get _ p1] at e2
    rcases Nat.lt_trichotomy i p with c | c | c
    · rw [if_pos c] at e1 e2
      exact old i e1 e2
    · rw [if_neg (by omega), if_pos c] at e1 e2
      cases e1
      cases e2
      exact ⟨K, ej, fun k' hk => keep _ (occ k' hk)⟩
    · rw [if_neg (by omega), if_neg (by omega)] at e1 e2
      exact old (i - 1) e1 e2
  · unfold SetTable.fill
    rw [sz, nd]
    rfl
theorem Full.free {m : Nat} (F : Full m) (owner : Array (Option Nat)) (h : Int) {j : Nat} (hj : j ≤ m) (hf : oAt owner j = none) :
    ∃ K, SetTable.layClean.free m owner (SetTable.turns m) (SetTable.bits h % (m + 1)) (SetTable.bits h) = some (way m h K) ∧ oAt owner (way m h K) = none ∧ ∀ k, k < K → oAt owner (way m h k) ≠ none := by
  obtain ⟨n, n1, n2⟩ := F.meet h hj
  have at_ : way m h (off m (SetTable.bits h % (m + 1)) (SetTable.bits h) n) = j := by
    unfold way
    rw [nth_off, itL_run]
    exact n2
  obtain ⟨K, K1, K2, K3⟩ := st_least (p := fun k => oAt owner (way m h k) = none) _ (at_.symm ▸ hf)
  refine ⟨K, free_spec m owner _ n _ _ K (by unfold SetTable.turns; omega) K1 (fun k hk => ?_) (by rw [Option.isNone_iff_eq_none]; exact K2), K2, K3⟩
  exact Bool.eq_false_iff.mpr fun z => K3 k hk (Option.isNone_iff_eq_none.mp z)
theorem own_step {m : Nat} (F : Full m) {done : List Int} {owner : Array (Option Nat)} (W : Own m done owner) (few : done.length ≤ m) (h : Int) :
    ∃ j, SetTable.layClean.free m owner (SetTable.turns m) (SetTable.bits h % (m + 1)) (SetTable.bits h) = some j ∧ Own m (done ++ [h]) (owner.setIfInBounds j (some done.length)) := by
  obtain ⟨ps, l1, l2⟩ := W.ps
  obtain ⟨j0, a1, a2⟩ := st_missing ps (m + 1) (by omega)
  have free0 : oAt owner j0 = none := Classical.byContradiction fun z => a2 (l2 j0 (Nat.le_of_lt_succ a1) z)
  obtain ⟨K, b1, b2, b3⟩ := F.free owner h (Nat.le_of_lt_succ a1) free0
  have top := way_in m h K
  generalize ej : way m h K = j at b1 b2 top
  have inb : j < owner.size := W.sz ▸ Nat.lt_succ_of_le top
  have self := oAt_set_self (some done.length) inb
  have up : ∀ i, oAt owner i ≠ none → oAt (owner.setIfInBounds j (some done.length)) i ≠ none := fun i hi => by
    have ne : i ≠ j := fun z => hi (by rw [z]; exact b2)
    rw [oAt_set_ne _ ne]
    exact hi
  refine ⟨j, b1, ⟨by simp [W.sz], fun i k hi e => ?_, fun k hk => ?_, ⟨j :: ps, by simp [l1], fun i hi e => ?_⟩⟩⟩
  · by_cases c : i = j
    · subst c
      rw [self] at e
      cases e
      exact ⟨h, K, by simp, ej, fun k' hk => up _ (b3 k' hk)⟩
    · rw [oAt_set_ne _ c] at e
      obtain ⟨h', K', c1, c2, c3⟩ := W.at_ i k hi e
      exact ⟨h', K', by rw [List.getElem?_append_left (List.getElem?_eq_some_iff.mp c1).1, c1], c2, fun k' hk => up _ (c3 k' hk)⟩
  · rw [List.length_append, List.length_singleton] at hk
    rcases Nat.lt_or_eq_of_le (Nat.le_of_lt_succ hk) with c | c
    · obtain ⟨i, i1, i2⟩ := W.all k c
      exact ⟨i, i1, (oAt_set_ne _ (fun z => by rw [z, b2] at i2; exact nomatch i2)).trans i2⟩
    · exact ⟨j, top, c ▸ self⟩
  · by_cases c : i = j
    · exact c ▸ List.mem_cons_self
    · rw [oAt_set_ne _ c] at e
      exact .tail _ (l2 i hi e)
theorem laid_all {m : Nat} (F : Full m) : ∀ (rest done : List Int) (owner : Array (Option Nat)), Own m done owner → done.length + rest.length ≤ m → ∃ o2, rest.foldl (stepF m) (some (owner, done.length)) = some (o2, (done ++ rest).length) ∧ Own m (done ++ rest) o2
  | [], done, owner, W, _ => ⟨owner, by simp, by simpa using W⟩
  | h :: rest, done, owner, W, few => by
    have few' : done.length + (rest.length + 1) ≤ m := few
    obtain ⟨j, e, W'⟩ := own_step F W (by omega) h
    obtain ⟨o2, f, W2⟩ := laid_all F rest (done ++ [h]) _ W' (by rw [List.length_append, List.length_singleton]; omega)
    rw [List.append_assoc, List.singleton_append] at f W2
    refine ⟨o2, ?_, W2⟩
    rw [List.foldl_cons, stepF_some e, ← f, List.length_append, List.length_singleton]
theorem clean_ok {m : Nat} (F : Full m) {hs : Array Int} (few : hs.size ≤ m) : ∃ owner, SetTable.layClean m hs = some owner ∧ Own m hs.toList owner := by
  obtain ⟨o2, f, W⟩ := laid_all F hs.toList [] _ (Own.init m) (by simpa using few)
  refine ⟨o2, ?_, W⟩
  rw [layClean_eq, show (0 : Nat) = ([] : List Int).length from rfl, f]
  rfl
theorem anew {t : SetTable} {hs : Array Int} {wanted M : Nat} (hw : SetTable.sizeAbove wanted - 1 = M) (F : Full M) (few : hs.size ≤ M) :
    ∃ t' order, t.relaid hs wanted = some (t', order) ∧ order.toList.Perm (List.range hs.size) ∧ Tb t' (order.toList.map fun i => hs.getD i 0) ∧ t'.mask = M ∧ t'.led = t.led := by
  obtain ⟨owner, e, W⟩ := clean_ok F few
  have up := ris_live (fun j => owner.getD j none) (List.range (M + 1)) (by unfold Ris; exact List.pairwise_lt_range)
  have r1 : Ris ((liveOf M owner).map (·.1)) := up.1
  have nd1 : ((liveOf M owner).map (·.1)).Nodup := List.Pairwise.imp (fun h => Nat.ne_of_lt h) r1
  have r2 : ∀ x ∈ (liveOf M owner).map (·.1), x ∈ List.range (M + 1) := up.2
  have all : ∀ k, k < hs.size → k ∈ (liveOf M owner).map (·.2) := fun k hk => by
    obtain ⟨j, b1, b2⟩ := W.all k hk
    exact List.mem_map.mpr ⟨(j, k), (mem_live W.sz).2 ⟨b1, b2⟩, rfl⟩
  have many : (liveOf M owner).length = hs.size := by
    obtain ⟨ps, p1, p2⟩ := W.ps
    have a := nat_nodup_len ((liveOf M owner).map (·.1)) ps nd1 fun x hx => by
      obtain ⟨⟨y, k⟩, hq, rfl⟩ := List.mem_map.mp hx
      obtain ⟨b1, b2⟩ := (mem_live W.sz).1 hq
      exact p2 y b1 fun z => nomatch b2.symm.trans z
    have b := nat_nodup_len (List.range hs.size) ((liveOf M owner).map (·.2)) List.nodup_range fun k hk => all k (List.mem_range.mp hk)
    rw [List.length_map, p1, Array.length_toList] at a
    rw [List.length_map, List.length_range] at b
    exact Nat.le_antisymm a b
  refine ⟨tabOf t M owner, ((liveOf M owner).map (·.2)).toArray, by rw [relaid_eq, hw, e]; rfl, perm_range _ _ (by simpa using many) (by simpa using fun k hk => List.mem_map.mp (all k hk)), ⟨r1, rfl, by simp [tabOf], F, fun x hx => Nat.le_of_lt_succ (List.mem_range.mp (r2 x hx)), fun i h j h1 h2 => ?_⟩, rfl, rfl⟩
  replace h2 : ((liveOf M owner).map (·.1))[i]? = some j := h2
  rw [List.getElem?_map, Option.map_eq_some_iff] at h2
  obtain ⟨⟨y, k⟩, q, rfl⟩ := h2
  have eh : hs.getD k 0 = h := by
    simp only [List.toList_toArray, List.map_map, List.getElem?_map, q, Option.map_some, Function.comp, Option.some.injEq] at h1
    exact h1
  obtain ⟨b1, b2⟩ := (mem_live W.sz).1 (List.mem_of_getElem? q)
  obtain ⟨h0, K, a1, a2, a3⟩ := W.at_ y k b1 b2
  have e0 : hs.getD k 0 = h0 := by
    rw [Array.getD_eq_getD_getElem?, ← Array.getElem?_toList, a1]
    rfl
  obtain rfl : h0 = h := e0.symm.trans eh
  refine ⟨K, a2, fun k' hk => ?_⟩
  cases z : oAt owner (way M h0 k') with
  | none => exact absurd z (a3 k' hk)
  | some k2 => exact List.mem_map.mpr ⟨(way M h0 k', k2), (mem_live W.sz).2 ⟨way_in M h0 k', z⟩, rfl⟩
theorem size5 : SetTable.sizeAbove (SetTable.grown 5) = 32 := by decide +kernel
theorem size19 : SetTable.sizeAbove (SetTable.grown 19) = 128 := by decide +kernel
theorem size77 : SetTable.sizeAbove (SetTable.grown 77) = 512 := by decide +kernel
theorem size307 : SetTable.sizeAbove (SetTable.grown 307) = 2048 := by decide +kernel
end TT
namespace TT
open PySem PySem.Spec PyProof.Rows L2
noncomputable abbrev Row := Addr × List Str
noncomputable abbrev KT (P : Program) (w : World) (h : Heap) (k : List Str) (a : Addr) : Prop := IsTupleKey (PySem.strKind P w) h k a
noncomputable abbrev th (P : Program) (w : World) (k : List Str) : Int := tupleKeyHash (PySem.strKind P w) k
section
variable {P : Program} {w : World} {A : Around} {E : Value → Shared → Prop} {s : Shared}
theorem txt_items {k : List Str} {vs : List Value} (h : ItemsAre (PySem.strKind P w) k vs) : ∀ v ∈ vs, ∃ x t, v = Value.str x t := by
  induction h with
  | nil => exact fun v hv => nomatch hv
  | cons h1 _ ih =>
    intro v hv
    cases hv with
    | head => exact ⟨_, Value.isStrOf_shape h1⟩
    | tail _ hv => exact ih v hv
theorem ofA_str (n : Nat) (x : Str) (t : Tok) : ofAClassStatement n (.str x t) = pure false := by cases n <;> rfl
theorem byVal_str (n : Nat) (x : Str) (t : Tok) : hashByValue n (.str x t) = pure false := by cases n <;> rfl
theorem ofA_tt {k : List Str} {b : Addr} {Q : Bool → Shared → Prop} (hk : KT P w s.heap k b) (q : Q false s) : wpAny (model P w) A (ofAClassStatement 8 (.ref b)) Q E s := by
  have ty := hk.typeIs
  obtain ⟨o, items, n, ho, _, hd, hi⟩ := hk
  have yes : ("tuple" == "tuple") = true := by decide
  unfold ofAClassStatement
  refine wpAny_bind (wpAny_typeOf ty ?_)
  dsimp only
  simp only [yes, if_true, Bool.not_true, Bool.false_eq_true, if_false]
  try refine wpAny_bind (wpAny_pure ?_)
  try simp only [Bool.not_true, Bool.false_eq_true, if_false]
  show wpAny _ _ (seqItems? (.ref b) >>= _) _ _ s
  refine wpAny_bind (wpAny_seqItems ho hd ?_)
  dsimp only
  refine wpAny_bind ?_
  show wpAny _ _ (forIn items _ _) _ _ s
  rw [← Array.forIn_toList]
  refine wpAny_forIn_list _ (fun more r z => z = s ∧ r.1 = none ∧ ∀ v ∈ more, ∃ x t, v = Value.str x t) _ (fun v more r z g => ?_) (fun r z g => ?_) _ _ ⟨rfl, rfl, txt_items hi⟩
  · obtain ⟨rfl, g1, g2⟩ := g
    obtain ⟨x, t, rfl⟩ := g2 v (.head _)
    rw [ofA_str]
    refine wpAny_bind (wpAny_pure ?_)
    simp only [Bool.false_eq_true, if_false]
    exact wpAny_pure ⟨rfl, rfl, fun u hu => g2 u (.tail _ hu)⟩
  · obtain ⟨r1, r2⟩ := r
    obtain ⟨rfl, g1, _⟩ := g
    dsimp only at g1
    subst g1
    exact wpAny_pure q
theorem byVal_tt {k : List Str} {b : Addr} {Q : Bool → Shared → Prop} (hk : KT P w s.heap k b) (q : ∀ c, Q c s) : wpAny (model P w) A (hashByValue 8 (.ref b)) Q E s := by
  have ty := hk.typeIs
  obtain ⟨o, items, n, ho, _, hd, hi⟩ := hk
  unfold hashByValue
  refine wpAny_bind (wpAny_specialOf ty F.slot_tuple_hash.lookup ?_)
  show wpAny _ _ (seqItems? (.ref b) >>= _) _ _ s
  refine wpAny_bind (wpAny_seqItems ho hd (wpAny_bind ?_))
  show wpAny _ _ (forIn items _ _) _ _ s
  rw [← Array.forIn_toList]
  refine wpAny_forIn_list _ (fun more r z => z = s ∧ r.1 = none ∧ ∀ v ∈ more, ∃ x t, v = Value.str x t) _ (fun v more r z g => ?_) (fun r z g => ?_) _ _ ⟨rfl, rfl, txt_items hi⟩
  · obtain ⟨rfl, g1, g2⟩ := g
    obtain ⟨x, t, rfl⟩ := g2 v (.head _)
    rw [byVal_str]
    refine wpAny_bind (wpAny_pure ?_)
    simp only [Bool.not_false, if_true]
    exact wpAny_pure (wpAny_pure (q _))
  · obtain ⟨r1, r2⟩ := r
    obtain ⟨rfl, g1, _⟩ := g
    dsimp only at g1
    subst g1
    exact wpAny_pure (q _)
theorem unseen_tt {k : List Str} {b : Addr} {Q : Bool → Shared → Prop} (hk : KT P w s.heap k b) {ys : List Value} (hy : ∀ y ∈ ys, ∃ k' c, y = Value.ref c ∧ KT P w s.heap k' c) (q : Q false s) :
    wpAny (model P w) A (searchCouldBeSeen (.ref b) ys) Q E s := by
  unfold searchCouldBeSeen
  refine wpAny_bind (wpAny_forIn_list _ (fun more r z => z = s ∧ r.1 = none ∧ ∀ y ∈ more, ∃ k' c, y = Value.ref c ∧ KT P w s.heap k' c) _ (fun v more r z g => ?_) (fun r z g => ?_) _ _ ⟨rfl, rfl, hy⟩)
  · obtain ⟨rfl, g1, g2⟩ := g
    obtain ⟨k', c, rfl, hc⟩ := g2 v (.head _)
    have g3 : ∀ y ∈ more, ∃ k' c, y = Value.ref c ∧ KT P w z.heap k' c := fun u hu => g2 u (.tail _ hu)
    dsimp only
    by_cases hv : (b == c || (carriedByValue (.ref b) && carriedByValue (.ref c))) = true
    · exact wp_if_pos hv (wpAny_pure ⟨rfl, rfl, g3⟩)
    · refine wp_if_neg hv (wpAny_bind (wpAny_eqIsQuiet_tuple hk ?_))
      simp only [Bool.not_true, Bool.false_eq_true, if_false]
      refine wpAny_bind (wpAny_eqIsQuiet_tuple hc ?_)
      simp only [Bool.not_true, Bool.false_eq_true, if_false]
      refine wpAny_bind (ofA_tt hk ?_)
      simp only [Bool.false_eq_true, if_false]
      refine wpAny_bind (ofA_tt hc ?_)
      simp only [Bool.false_eq_true, if_false]
      exact wpAny_pure ⟨rfl, rfl, g3⟩
  · obtain ⟨r1, r2⟩ := r
    obtain ⟨rfl, g1, _⟩ := g
    dsimp only at g1
    subst g1
    exact wpAny_pure q
noncomputable def rws (P : Program) (w : World) (L : List Row) : List (Int × Value) := L.map fun q => (th P w q.2, Value.ref q.1)
structure SR (P : Program) (w : World) (h : Heap) (a : Addr) (L : List Row) (es : Array (Int × Value)) (ep : Nat) (t : SetTable) : Prop where
  ob : ∃ o, h.get? a = some o ∧ o.ExactSet ∧ o.data = .set es ep t
  rows : es.toList = rws P w L
  tab : Tb t (L.map fun q => th P w q.2)
  nd : (L.map (·.2)).Nodup
  tup : ∀ q ∈ L, KT P w h q.2 q.1
  led : w.params.followText "set-order" = true ∨ t.led = true
  room : L.length * 5 < t.mask * 3
  msk : Msk t.mask
  few : L.length ≤ 1000
variable {a : Addr} {L : List Row} {es : Array (Int × Value)} {ep : Nat} {t : SetTable}
theorem rws_len (P : Program) (w : World) {L : List Row} {es : Array (Int × Value)} (h : es.toList = rws P w L) : es.size = L.length := by
  rw [← Array.length_toList, h, rws, List.length_map]
theorem rws_at (P : Program) (w : World) {L : List Row} {es : Array (Int × Value)} (h : es.toList = rws P w L) {i : Nat} {q : Row} (hi : L[i]? = some q) : es[i]? = some (th P w q.2, Value.ref q.1) := by
  rw [← Array.getElem?_toList, h, rws, List.getElem?_map, hi]
  rfl
theorem fits_of {t : SetTable} {n : Nat} (d : t.dummies = #[]) (e : t.place.size = n) (m : n ≤ t.mask) : t.fits n = true := by
  unfold SetTable.fits SetTable.fill
  rw [d, Bool.and_eq_true, beq_iff_eq, decide_eq_true_eq]
  exact ⟨e, by rw [e]; exact m⟩
theorem SR.size (R : SR P w s.heap a L es ep t) : es.size = L.length := rws_len P w R.rows
theorem SR.few' (R : SR P w s.heap a L es ep t) : L.length ≤ t.mask := by
  have := R.room
  omega
theorem SR.fits (R : SR P w s.heap a L es ep t) : t.fits es.size = true := fits_of R.tab.dm (by rw [R.tab.sz, List.length_map, R.size]) (by rw [R.size]; exact R.few')
theorem SR.stays (R : SR P w s.heap a L es ep t) : ¬ t.gaveWay = true := by
  unfold SetTable.gaveWay
  rw [R.tab.full.odd]
  decide
theorem dum_nth (m : Nat) : ∀ (n : Nat) (p : SetTable.Probe), p.dummy = none → (nth m p n).dummy = none
  | 0, _, h => h
  | n + 1, p, h => dum_nth m n (adv m p) (by unfold adv; split <;> exact h)
theorem look (R : SR P w s.heap a L es ep t) {x : Addr} {k : List Str} (hx : KT P w s.heap k x) (hu : A.units < cLine) {K : Nat} (bound : K < 10 * SetTable.turns t.mask)
    (free : way t.mask (th P w k) K ∉ t.place.toList) (occ : ∀ c, c < K → way t.mask (th P w k) c ∈ t.place.toList) {Q : SetFound → Shared → Prop}
    (q1 : k ∈ L.map (·.2) → Q (.there none) s) (q2 : k ∉ L.map (·.2) → Q (.free (way t.mask (th P w k) K) false) s) :
    ∀ (f c : Nat) (stand : Option SetTable.Probe), stand.getD (t.probeStart (th P w k)) = nth t.mask (t.probeStart (th P w k)) c → c ≤ K → K < f + c →
      (∀ (i : Nat) r, L[i]? = some r → r.2 = k → ∃ d, c ≤ d ∧ d < K ∧ t.place.toList[i]? = some (way t.mask (th P w k) d)) →
      wpAny (model P w) A (setSearchFrom a (.ref x) (th P w k) true f stand) Q E s
  | 0, c, _, _, h1, h2, _ => absurd h2 (by omega)
  | f + 1, c, stand, hst, h1, h2, rest => by
    obtain ⟨o, ho, hex, hd⟩ := R.ob
    rw [setSearchFrom_succ]
    refine wpAny_bind (wpAny_setState_of ho hd R.fits ?_)
    dsimp only
    refine wp_if_neg R.stays ?_
    try refine wpAny_bind (wpAny_pure ?_)
    generalize hH : th P w k = H at *
    have wy : ∀ q, (nth t.mask (nth t.mask (t.probeStart H) c) q).j = way t.mask H (c + q) := fun q => by rw [← nth_add]; rfl
    have hsh : ∀ (i : Nat) r, L[i]? = some r → ((fun i => (es[i]?.map (·.1)).getD 0) i : Int) = th P w r.2 := fun i r hr => by
      show (es[i]?.map (·.1)).getD 0 = _
      rw [rws_at P w R.rows hr]
      rfl
    have kc : c + (K - c) = K := by omega
    have out := go_spec t R.tab.ris R.tab.dm (fun i => (es[i]?.map (·.1)).getD 0) H (10 * SetTable.turns t.mask) (K - c) (nth t.mask (t.probeStart H) c) (dum_nth _ c _ rfl) (by omega)
      (fun q hq => by rw [wy]; exact occ _ (by omega)) (by rw [wy, kc]; exact free)
    rcases out with ⟨q, i, b1, b2, b3, b4, b5⟩ | ⟨b4, b5⟩
    · have probe : t.probe (fun i => (es[i]?.map (·.1)).getD 0) H (stand.getD (t.probeStart H)) = some (.candidate (way t.mask H (c + q)) i (nth t.mask (t.probeStart H) (c + (q + 1)))) := by
        rw [hst, ← wy q, nth_add]
        exact b5
      rw [probe]
      dsimp only
      rw [wy] at b2
      have live := slot_live R.tab.ris b2
      have il : i < L.length := by
        have z := (List.getElem?_eq_some_iff.mp b2).1
        rw [R.tab.len, List.length_map] at z
        exact z
      obtain ⟨r, hr⟩ : ∃ r, L[i]? = some r := ⟨_, List.getElem?_eq_getElem il⟩
      have mem := List.mem_of_getElem? hr
      have go : wpAny (model P w) A (searchRest a (.ref x) H true f es t (way t.mask H (c + q)) i (nth t.mask (t.probeStart H) (c + (q + 1)))) Q E s := by
        unfold searchRest
        rw [rws_at P w R.rows hr]
        dsimp only
        refine wpAny_bind (wpAny_holding (wpAny_eqBool_tuple hu (R.tup r mem) hx (wpAny_bind (wpAny_setState_of ho hd R.fits ?_))))
        dsimp only
        by_cases same : r.2 = k
        · exact wp_if_pos (by simp [same]) (wpAny_pure (q1 (List.mem_map.mpr ⟨r, mem, same⟩)))
        · refine wp_if_neg (by simp [same]) ?_
          try refine wpAny_bind (wpAny_pure ?_)
          rw [sameMem]
          dsimp only
          simp only [if_true, live, rws_at P w R.rows hr]
          refine wpAny_bind (wpAny_isSame_ref_self (wpAny_bind (wpAny_pure ?_)))
          simp only [if_true]
          refine wp_if_neg (by simp [same]) ?_
          rw [← hH]
          refine look R hx hu bound (by rw [hH]; exact free) (by rw [hH]; exact occ) q1 (by rw [hH]; exact q2) f (c + (q + 1)) _ (by rw [hH]; rfl) (by omega) (by omega) fun i0 r0 g1 g2 => ?_
          obtain ⟨d, d1, d2, d3⟩ := rest i0 r0 g1 g2
          rw [hH]
          refine ⟨d, ?_, d2, d3⟩
          rcases Nat.lt_trichotomy d (c + q) with z | z | z
          · refine absurd ((hsh i0 r0 g1).trans ((congrArg (th P w) g2).trans hH)) (b4 (d - c) i0 (by omega) ?_)
            rw [wy, show c + (d - c) = d by omega]
            exact d3
          · subst z
            have e0 := slot_live R.tab.ris d3
            rw [live] at e0
            injection e0 with e0
            subst e0
            rw [hr] at g1
            cases g1
            exact absurd g2 same
          · omega
      by_cases hl : t.led = true
      · refine wp_if_neg (by simp [hl]) ?_
        try refine wpAny_bind (wpAny_pure ?_)
        exact go
      · refine wp_if_pos (by simp [hl]) (wpAny_bind (unseen_tt hx (fun y hy => ?_) (wp_if_neg (by decide) ?_)))
        · obtain ⟨e, he, ee⟩ := List.mem_map.mp hy
          have he : e ∈ es.toList := by
            have : e ∈ es ∧ e.1 = H := by simpa using he
            simpa using this.1
          rw [R.rows] at he
          obtain ⟨r2, m2, e2⟩ := List.mem_map.mp he
          exact ⟨r2.2, r2.1, by rw [← ee, ← e2], R.tup r2 m2⟩
        · try refine wpAny_bind (wpAny_pure ?_)
          exact go
    · have probe : t.probe (fun i => (es[i]?.map (·.1)).getD 0) H (stand.getD (t.probeStart H)) = some (.empty (way t.mask H K) none) := by
        rw [hst, ← kc, ← wy]
        exact b5
      rw [probe]
      dsimp only
      refine wpAny_pure (q2 fun hm => ?_)
      obtain ⟨r0, m0, g2⟩ := List.mem_map.mp hm
      obtain ⟨i0, _, g1⟩ := List.getElem?_of_mem m0 |>.elim fun i e => (⟨i, trivial, e⟩ : ∃ i, True ∧ L[i]? = some r0)
      obtain ⟨d, d1, d2, d3⟩ := rest i0 r0 g1 g2
      refine b4 (d - c) i0 (by omega) ?_ ((hsh i0 r0 g1).trans ((congrArg (th P w) g2).trans hH))
      rw [wy, show c + (d - c) = d by omega]
      exact d3
theorem look_at (R : SR P w s.heap a L es ep t) {x : Addr} {k : List Str} (hx : KT P w s.heap k x) (hu : A.units < cLine) {Q : SetFound → Shared → Prop} (q1 : k ∈ L.map (·.2) → Q (.there none) s)
    (q2 : ∀ K, k ∉ L.map (·.2) → way t.mask (th P w k) K ∉ t.place.toList → (∀ c, c < K → way t.mask (th P w k) c ∈ t.place.toList) → Q (.free (way t.mask (th P w k) K) false) s) :
    wpAny (model P w) A (setSearch a (.ref x) (th P w k) true) Q E s := by
  obtain ⟨K, K1, K2, K3⟩ := R.tab.hole (by rw [List.length_map]; exact R.few') (th P w k)
  have small : 10 * SetTable.turns t.mask ≤ 99999 := by
    unfold SetTable.turns
    rcases R.msk with e | e | e | e | e <;> omega
  unfold setSearch
  refine look R hx hu K1 K2 K3 q1 (fun n => q2 K n K2 K3) 100000 0 none rfl (Nat.zero_le _) (by omega) fun i r hr e => ?_
  have il : i < t.place.toList.length := by
    rw [R.tab.len, List.length_map]
    exact (List.getElem?_eq_some_iff.mp hr).1
  obtain ⟨d, d1, d2⟩ := R.tab.ahead K2 (i := i) (by rw [List.getElem?_map, hr, ← e]; rfl) (List.getElem?_eq_getElem il)
  exact ⟨d, Nat.zero_le _, d1, d2 ▸ List.getElem?_eq_getElem il⟩
end
end TT
namespace TT
open PySem PySem.Spec PyProof.Rows L2
section
variable {P : Program} {w : World} {A : Around} {E : Value → Shared → Prop} {s : Shared}
theorem kt_other {h h' : Heap} {k : List Str} {a b : Addr} {o : Obj} {es : Array (Int × Value)} {ep : Nat} {t : SetTable} (hb : KT P w h k b) (ho : h.get? a = some o) (hd : o.data = .set es ep t) (same : Heap.SameBut a h h') : KT P w h' k b := by
  obtain ⟨u, items, n, hu, rest⟩ := hb
  refine ⟨u, items, n, (same.2 b fun z => ?_).trans hu, rest⟩
  subst z
  rw [hu] at ho
  cases ho
  rw [hd] at rest
  exact nomatch rest.2.1
theorem kt_up {h h' : Heap} {k : List Str} {b : Addr} (x : KT P w h k b) (up : ∀ c o, h.get? c = some o → h'.get? c = some o) : KT P w h' k b := by
  obtain ⟨u, items, n, hu, rest⟩ := x
  exact ⟨u, items, n, up b u hu, rest⟩
variable {a : Addr} {L : List Row} {es : Array (Int × Value)} {ep : Nat} {t : SetTable}
theorem take_all {α : Type} (L : List α) : ∀ n, n ≤ L.length → (List.range n).filterMap (fun i => L[i]?) = L.take n
  | 0, _ => rfl
  | n + 1, h => by
    have at_ := List.getElem?_eq_getElem h
    rw [List.range_succ, List.filterMap_append, take_all L n (Nat.le_of_lt h), List.take_succ, at_, List.filterMap_cons_some at_]
    rfl
theorem rows_in_order (order : Array Nat) (hr : es.toList = rws P w L) (hp : order.toList.Perm (List.range L.length)) :
    ∃ L2, (order.filterMap (es[·]?)).toList = rws P w L2 ∧ L2.Perm L ∧ (L2.map fun q => th P w q.2) = order.toList.map fun i => (es.map (·.1)).getD i 0 := by
  have key : ∀ l : List Nat, (∀ i ∈ l, i < L.length) → l.filterMap (fun i => es[i]?) = rws P w (l.filterMap fun i => L[i]?) ∧ ((l.filterMap fun i => L[i]?).map fun q => th P w q.2) = l.map fun i => (es.map (·.1)).getD i 0 := by
    intro l
    induction l with
    | nil => exact fun _ => ⟨rfl, rfl⟩
    | cons i l ih =>
      intro h
      obtain ⟨e1, e2⟩ := ih fun j hj => h j (.tail _ hj)
      have at_ := List.getElem?_eq_getElem (h i (.head _))
      have ent := rws_at P w hr at_
      have ent2 : (es.map (·.1)).getD i 0 = th P w (L[i]'(h i (.head _))).2 := by
        rw [Array.getD_eq_getD_getElem?, Array.getElem?_map, ent]
        rfl
      rw [List.filterMap_cons_some ent, List.filterMap_cons_some at_, List.map_cons, List.map_cons, e1, e2, ent2]
      exact ⟨rfl, rfl⟩
  obtain ⟨e1, e2⟩ := key order.toList fun i hi => List.mem_range.mp (hp.mem_iff.mp hi)
  refine ⟨_, ?_, ?_, e2⟩
  · rw [← e1]
    simp
  · have h1 := hp.filterMap fun i => L[i]?
    rwa [take_all L _ (Nat.le_refl _), List.take_length] at h1
theorem relay {o : Obj} (ho : s.heap.get? a = some o) (hex : o.ExactSet) (hd : o.data = .set es ep t) (hr : es.toList = rws P w L) (tab : Tb t (L.map fun q => th P w q.2)) (fill : L.length ≤ t.mask)
    (nd : (L.map (·.2)).Nodup) (tup : ∀ q ∈ L, KT P w s.heap q.2 q.1) (ld : w.params.followText "set-order" = true ∨ t.led = true) (few : L.length ≤ 1000) {wanted M : Nat}
    (hw : SetTable.sizeAbove wanted - 1 = M) (hM : Msk M) (line : SetTable.sizeAbove wanted ≤ 4096) (room : L.length * 5 < M * 3) {Q : Unit → Shared → Prop}
    (q : ∀ h' L' es' ep' t', Heap.SameBut a s.heap h' → SR P w h' a L' es' ep' t' → L'.Perm L → Q () { s with heap := h' }) : wpAny (model P w) A (setRelay a wanted) Q E s := by
  have sz := rws_len P w hr
  have fits : t.fits es.size = true := fits_of tab.dm (by rw [tab.sz, List.length_map, sz]) (by rw [sz]; exact fill)
  obtain ⟨t', order, e, perm, T, em, el⟩ := anew (t := t) (hs := es.map (·.1)) (wanted := wanted) hw hM.full (by rw [Array.size_map, sz]; omega)
  rw [Array.size_map, sz] at perm
  obtain ⟨L2, r1, r2, r3⟩ := rows_in_order order hr perm
  rw [← r3] at T
  have sz2 : (order.filterMap (es[·]?)).size = es.size := (rws_len P w r1).trans (r2.length_eq.trans sz.symm)
  rw [setRelay_eq]
  refine wpAny_bind (wpAny_setState_of ho hd fits ?_)
  dsimp only
  refine wp_if_neg (by rw [sizeLine_eq]; omega) ?_
  try refine wpAny_bind (wpAny_pure ?_)
  rw [e]
  dsimp only
  refine wpAny_bind (wp_if_neg (by rw [sz2]; simp) ?_)
  try refine wpAny_bind (wpAny_pure ?_)
  refine wpAny_pure ?_
  dsimp only
  refine wpAny_storeSet_of ho hd ?_ (by rw [sz2, sz, sizeLine_eq]; omega)
  have same : Heap.SameBut a s.heap (s.heap.update a (Obj.putSet (order.filterMap (es[·]?)) t')) := Heap.SameBut.update ..
  refine q _ L2 _ (ep + 1) t' same ⟨⟨_, store_at ho hd, ⟨hex.1, hex.2.1, hex.2.2⟩, rfl⟩, r1, T, (r2.map (·.2)).nodup_iff.mpr nd, fun q hq => kt_other (tup q (r2.mem_iff.mp hq)) ho hd same, by rw [el]; exact ld, ?_, em ▸ hM, r2.length_eq ▸ few⟩ r2
  rw [r2.length_eq, em]
  exact room
theorem ins_perm {α : Type} (L : List α) (p : Nat) (x : α) : (L.take p ++ x :: L.drop p).Perm (x :: L) := by
  have h : (L.take p ++ x :: L.drop p).Perm (x :: (L.take p ++ L.drop p)) := List.perm_middle
  rwa [List.take_append_drop] at h
theorem add_tt (R : SR P w s.heap a L es ep t) {x : Addr} {k : List Str} (hx : KT P w s.heap k x) (hu : A.units < cLine) (few : L.length + 1 ≤ 1000) {Q : Bool → Shared → Prop}
    (q : ∀ b h' L' es' ep' t', Heap.SameBut a s.heap h' → SR P w h' a L' es' ep' t' → (k ∈ L.map (·.2) → L' = L) → (k ∉ L.map (·.2) → L'.Perm ((x, k) :: L)) → Q b { s with heap := h' }) :
    wpAny (model P w) A (setAddHashed a (.ref x) (th P w k)) Q E s := by
  obtain ⟨o, ho, hex, hd⟩ := R.ob
  have sz := R.size
  unfold setAddHashed
  refine wpAny_holding ?_
  rw [show (100000 : Nat) = 99999 + 1 from rfl, setAddHashedIn_succ]
  refine wpAny_bind (wpAny_setState_of ho hd R.fits ?_)
  dsimp only
  refine wp_if_neg (by simp [byScan, Value.scannable]) ?_
  try refine wpAny_bind (wpAny_pure ?_)
  refine wpAny_bind (look_at R hx hu (fun old => ?_) fun K new free occ => ?_)
  · dsimp only
    exact wpAny_pure (q false s.heap L es ep t (Heap.SameBut.refl a s.heap) R (fun _ => rfl) fun z => absurd old z)
  dsimp only
  refine wpAny_bind (wpAny_setState_of ho hd R.fits ?_)
  dsimp only
  obtain ⟨p, hp⟩ : ∃ p, SetTable.below t.place (way t.mask (th P w k) K) = p := ⟨_, rfl⟩
  obtain ⟨g1, g2, g3, g4, g5, g6⟩ := R.tab.add free occ rfl hp
  generalize hj : way t.mask (th P w k) K = j at *
  have pm := ins_perm L p (x, k)
  have ln : (L.take p ++ (x, k) :: L.drop p).length = L.length + 1 := pm.length_eq
  have rw1 : (SetTable.insertAt es p (th P w k, Value.ref x)).toList = rws P w (L.take p ++ (x, k) :: L.drop p) := by
    rw [SetTable.toList_insertAt, R.rows]
    simp only [rws, List.map_append, List.map_cons, List.map_take, List.map_drop]
  have tb : Tb (t.put j).1 ((L.take p ++ (x, k) :: L.drop p).map fun q => th P w q.2) := by
    rw [List.map_append, List.map_cons, List.map_take, List.map_drop]
    exact g3
  generalize hpt : t.put j = pt at *
  obtain ⟨t1, p1⟩ := pt
  dsimp only at g1 g4 g5 g6 tb ⊢
  subst g1
  have go : ∀ t2 : SetTable, t2.place = t1.place → t2.dummies = t1.dummies → t2.mask = t1.mask → t2.led = t1.led →
      wpAny (model P w) A (storeSet a (SetTable.insertAt es p1 (th P w k, Value.ref x)) t2 >>= fun _ => do
        if !false && t2.tooFull then setRelay a (SetTable.grown (es.size + 1))
        return true) Q E s := fun t2 c1 c2 c3 c4 => by
    have tb2 : Tb t2 ((L.take p1 ++ (x, k) :: L.drop p1).map fun q => th P w q.2) := ⟨c1 ▸ tb.ris, c2.trans tb.dm, c1 ▸ tb.sz, c3 ▸ tb.full, c1 ▸ c3 ▸ tb.bd, c1 ▸ c3 ▸ tb.reach⟩
    have m2 : t2.mask = t.mask := c3.trans g4
    have fl : t2.fill = L.length + 1 := by
      rw [List.length_map] at g6
      rw [← g6]
      unfold SetTable.fill
      rw [c1, c2]
    have nd1 : ((L.take p1 ++ (x, k) :: L.drop p1).map (·.2)).Nodup := (pm.map (·.2)).nodup_iff.mpr (List.nodup_cons.mpr ⟨new, R.nd⟩)
    have ld : w.params.followText "set-order" = true ∨ t2.led = true := by rw [c4, g5]; exact R.led
    have se : (SetTable.insertAt es p1 (th P w k, Value.ref x)).size = L.length + 1 := (rws_len P w rw1).trans ln
    generalize SetTable.insertAt es p1 (th P w k, Value.ref x) = es1 at *
    generalize L.take p1 ++ (x, k) :: L.drop p1 = L1 at *
    refine wpAny_bind (wpAny_storeSet_of ho hd ?_ (by rw [se, sizeLine_eq]; omega))
    have same : Heap.SameBut a s.heap (s.heap.update a (Obj.putSet es1 t2)) := Heap.SameBut.update ..
    have ho1 := store_at (es' := es1) (t' := t2) ho hd
    generalize s.heap.update a (Obj.putSet es1 t2) = h1 at same ho1 ⊢
    have tup1 : ∀ q ∈ L1, KT P w h1 q.2 q.1 := fun q hq => by
      rcases List.mem_cons.mp (pm.mem_iff.mp hq) with e | hq
      · rw [e]; exact kt_other hx ho hd same
      · exact kt_other (R.tup q hq) ho hd same
    by_cases full : t2.tooFull = true
    · have big : (L.length + 1) * 5 ≥ t.mask * 3 := by
        unfold SetTable.tooFull at full
        rw [decide_eq_true_eq, fl, m2] at full
        exact full
      have room := R.room
      have lay : ∀ M, SetTable.sizeAbove (SetTable.grown (L.length + 1)) = M + 1 → Msk M → M ≤ 4095 → (L.length + 1) * 5 < M * 3 →
          wpAny (model P w) A (setRelay a (SetTable.grown (es.size + 1))) (fun _ z => wpAny (model P w) A (pure true) Q E z) E { s with heap := h1 } := fun M d1 d2 d3 d4 => by
        rw [sz]
        refine relay (s := { s with heap := h1 }) ho1 ⟨hex.1, hex.2.1, hex.2.2⟩ rfl rw1 tb2 (by rw [ln, m2]; omega) nd1 tup1 ld (by omega) (M := M) (by rw [d1]; rfl) d2 (by omega) (by rw [ln]; exact d4) fun h2 L2 es2 ep2 t3 same2 R2 pm2 => ?_
        exact wpAny_pure (q true h2 L2 es2 ep2 t3 (same.trans same2) R2 (fun z => absurd z new) fun _ => pm2.trans pm)
      have lay2 : wpAny (model P w) A (setRelay a (SetTable.grown (es.size + 1))) (fun _ z => wpAny (model P w) A (pure true) Q E z) E { s with heap := h1 } := by
        rcases R.msk with e | e | e | e | e
        · refine lay 31 ?_ (.inr (.inl rfl)) (by decide) (by omega)
          rw [show L.length + 1 = 5 by omega, size5]
        · refine lay 127 ?_ (.inr (.inr (.inl rfl))) (by decide) (by omega)
          rw [show L.length + 1 = 19 by omega, size19]
        · refine lay 511 ?_ (.inr (.inr (.inr (.inl rfl)))) (by decide) (by omega)
          rw [show L.length + 1 = 77 by omega, size77]
        · refine lay 2047 ?_ (.inr (.inr (.inr (.inr rfl)))) (by decide) (by omega)
          rw [show L.length + 1 = 307 by omega, size307]
        · omega
      first
        | exact wpAny_bind (wp_if_pos (by simp [full]) lay2)
        | exact wp_if_pos (by simp [full]) (wpAny_bind lay2)
    · have fin : Q true { s with heap := h1 } := by
        refine q true h1 L1 es1 (ep + 1) t2 same ⟨⟨_, ho1, ⟨hex.1, hex.2.1, hex.2.2⟩, rfl⟩, rw1, tb2, nd1, tup1, ld, ?_, m2 ▸ R.msk, by omega⟩ (fun z => absurd z new) fun _ => pm
        unfold SetTable.tooFull at full
        rw [decide_eq_true_eq, fl, m2] at full
        rw [ln, m2]
        omega
      first
        | exact wp_if_neg (by simp [full]) (wpAny_pure fin)
        | exact wpAny_bind (wp_if_neg (by simp [full]) (wpAny_pure (wpAny_pure fin)))
  by_cases pl : t1.plain = true
  · first
      | refine wpAny_bind (wp_if_pos pl (byVal_tt hx fun c => ?_))
      | refine wp_if_pos pl (wpAny_bind (byVal_tt hx fun c => ?_))
    cases c
    · exact go { t1 with plain := false } rfl rfl rfl rfl
    · exact go t1 rfl rfl rfl rfl
  · first
      | refine wpAny_bind (wp_if_neg pl (wpAny_pure ?_))
      | refine wp_if_neg pl (wpAny_bind (wpAny_pure ?_))
      | refine wp_if_neg pl ?_
    exact go t1 rfl rfl rfl rfl
end
end TT
namespace TT
open PySem PySem.Spec PyProof.Rows L2
noncomputable def Has (ks : List Row) (i : Nat) (L : List Row) : Prop := (∀ q ∈ L, q ∈ ks.take i) ∧ (∀ q ∈ ks.take i, q.2 ∈ L.map (·.2)) ∧ L.length ≤ i
theorem Has.none (ks : List Row) : Has ks 0 [] := ⟨(fun q h => nomatch h), (fun q h => by simp at h), Nat.le_refl _⟩
theorem take_snoc {α : Type} {l : List α} {i : Nat} {x : α} (h : l[i]? = some x) : l.take (i + 1) = l.take i ++ [x] := by
  rw [List.take_succ, h]
  rfl
theorem Has.next {ks L L' : List Row} {i : Nat} {x : Row} (g : Has ks i L) (h : ks[i]? = some x) (c1 : x.2 ∈ L.map (·.2) → L' = L) (c2 : x.2 ∉ L.map (·.2) → L'.Perm (x :: L)) : Has ks (i + 1) L' := by
  obtain ⟨g1, g2, g3⟩ := g
  unfold Has
  rw [take_snoc h]
  by_cases c : x.2 ∈ L.map (·.2)
  · rw [c1 c]
    refine ⟨fun q hq => List.mem_append_left _ (g1 q hq), fun q hq => ?_, Nat.le_succ_of_le g3⟩
    rcases List.mem_append.mp hq with z | z
    · exact g2 q z
    · rw [List.mem_singleton.mp z]; exact c
  · have pm := c2 c
    refine ⟨fun q hq => ?_, fun q hq => ?_, by rw [pm.length_eq]; exact Nat.succ_le_succ g3⟩
    · rcases List.mem_cons.mp (pm.mem_iff.mp hq) with z | z
      · rw [z]; exact List.mem_append_right _ (.head _)
      · exact List.mem_append_left _ (g1 q z)
    · rw [(pm.map (·.2)).mem_iff, List.map_cons]
      rcases List.mem_append.mp hq with z | z
      · exact .tail _ (g2 q z)
      · rw [List.mem_singleton.mp z]; exact .head _
section
variable {P : Program} {w : World} {A : Around} {E : Value → Shared → Prop} {s : Shared}
noncomputable def Filled (P : Program) (w : World) (h : Heap) (a : Addr) (ks : List Row) (i : Nat) : Prop := ∃ L es ep t, SR P w h a L es ep t ∧ Has ks i L
theorem SR.up {h h' : Heap} {a : Addr} {L : List Row} {es : Array (Int × Value)} {ep : Nat} {t : SetTable} (R : SR P w h a L es ep t) (at_ : ∀ o, h.get? a = some o → h'.get? a = some o) (tup : ∀ q ∈ L, KT P w h' q.2 q.1) : SR P w h' a L es ep t := by
  obtain ⟨o, ho, rest⟩ := R.ob
  exact { R with ob := ⟨o, at_ o ho, rest⟩, tup := tup }
theorem sr_nude {h : Heap} {a : Addr} (ho : h.get? a = some (SetS.nude (!w.params.followText "set-order"))) : SR P w h a [] #[] 0 (.fresh 0 0 (!w.params.followText "set-order")) where
  ob := ⟨_, ho, ⟨rfl, rfl, rfl⟩, rfl⟩
  rows := rfl
  tab := ⟨List.Pairwise.nil, rfl, rfl, full7, (fun x hx => nomatch hx), (fun i h j hi => nomatch (hi : none = some h))⟩
  nd := List.nodup_nil
  tup := fun q hq => nomatch hq
  led := by
    show _ ∨ (!w.params.followText "set-order") = true
    cases w.params.followText "set-order"
    · exact .inr rfl
    · exact .inl rfl
  room := (by decide : 0 * 5 < 7 * 3)
  msk := .inl rfl
  few := Nat.zero_le _
theorem fillT {R : Result → Shared → Prop} {it a : Addr} {fp wr : List Addr} {G : Array GenState → Array GenState → Prop} {Pv : Nat → Value → Prop} {St : Nat → Shared → Prop} (ks : List Row)
    (W : WalksS P w A.in1 it fp wr G ks.length Pv St) (ha : a ∉ fp) (few : ks.length ≤ 1000) (each : ∀ i v, Pv i v → ∃ q, ks[i]? = some q ∧ v = .ref q.1) (h0 : Heap) (hk : ∀ q ∈ ks, KT P w h0 q.2 q.1) (f0 : h0.get? a = none) (f1 : ∀ b ∈ wr, h0.get? b = none) (hu : A.in1.units < cLine) :
    ∀ (j i : Nat) (s : Shared), i + j = ks.length → St i s → (∀ b o, h0.get? b = some o → s.heap.get? b = some o) → Filled P w s.heap a ks i →
      (∀ z, Moved (a :: wr) G s z → Filled P w z.heap a ks ks.length → (∀ b o, h0.get? b = some o → z.heap.get? b = some o) → R (.ok (.ret .none)) z) →
      codeAny (model P w) A (.builtin "set.update.loop" ⟨[.ref a, .ref it], []⟩) R s := by
  have out : a ∉ wr := fun z => ha (W.sub a z)
  have more : ∀ {s z : Shared}, Moved wr G s z → Moved (a :: wr) G s z := fun m => m.mono fun b hb => .tail _ hb
  have up : ∀ {s z : Shared}, Moved wr G s z → (∀ b o, h0.get? b = some o → s.heap.get? b = some o) → ∀ b o, h0.get? b = some o → z.heap.get? b = some o := fun m k b o e => m.heap b o (fun hb => by rw [f1 b hb] at e; cases e) (k b o e)
  have carry : ∀ {s z : Shared} {i L es ep t}, Moved wr G s z → (∀ b o, h0.get? b = some o → s.heap.get? b = some o) → SR P w s.heap a L es ep t → Has ks i L → SR P w z.heap a L es ep t := fun m k T g =>
    T.up (fun o h => m.heap a o out h) fun q hq => kt_up (hk q (List.mem_of_mem_take (g.1 q hq))) (up m k)
  intro j
  induction j with
  | zero =>
    intro i s e st k T fin
    obtain rfl : i = ks.length := by omega
    obtain ⟨L, es, ep, t, T, g⟩ := T
    refine codeAny_builtin F.entry_set_update_loop ?_
    rw [Around.under_plainId F.plain_set_update_loop _]
    refine wpAny_bind (f := fun x => _) (W.done s _ _ st fun z m => ?_)
    exact wpAny_pure (M := model P w) (A := A.in1) (fin z (more m) ⟨L, es, ep, t, carry m k T g, g⟩ (up m k))
  | succ j ih =>
    intro i s e st k T fin
    have lt : i < ks.length := by omega
    obtain ⟨L, es, ep, t, T, g⟩ := T
    refine codeAny_builtin F.entry_set_update_loop ?_
    rw [Around.under_plainId F.plain_set_update_loop _]
    refine wpAny_bind (f := fun x => _) (W.item i s _ _ lt st fun v z hv st' m => ?_)
    obtain ⟨q, hq, rfl⟩ := each i v hv
    have x := kt_up (hk q (List.mem_of_getElem? hq)) (up m k)
    have T' := carry m k T g
    refine wpAny_bind (f := fun x => _) (wpAny_holding ?_)
    unfold setAdd
    refine wpAny_holding (wpAny_bind (wpAny_pyHash_tuple hu x ?_))
    refine add_tt (s := { z with toks := z.toks + (q.2.length + 1) }) T' x hu (by have := g.2.2; omega) fun b h' L' es' ep' t' same T2 c1 c2 => ?_
    have k2 : ∀ b o, h0.get? b = some o → h'.get? b = some o := fun b o e => (same.2 b fun c => by rw [c, f0] at e; cases e).trans (up m k b o e)
    refine wpAny_pure (M := model P w) (A := A.in1) ⟨plainId_quiet F.plain_set_update_loop _, ih (i + 1) _ (by omega) (W.frame _ z _ _ st' (Nat.le_add_right _ _) fun b hb o h => (same.2 b fun c => ha (c ▸ hb)).trans h) k2 ⟨L', es', ep', t', T2, g.next hq c1 c2⟩ fun z' m' T3 k3 => fin z' ?_ T3 k3⟩
    exact ((more m).then_heap (Nat.le_add_right _ _) fun b o hb h => (same.2 b fun c => hb (c ▸ List.mem_cons_self ..)).trans h).trans W.gtrans m'
set_option maxHeartbeats 3200000 in
theorem makeT {l : Addr} {us : Array Value} {ks : List Row} {Q : Value → Shared → Prop} (led0 : A.handled = none) (hu : A.units + 8 < cLine) (isl : s.heap.IsList l us) (hit : us.toList = ks.map fun q => Value.ref q.1) (hk : ∀ q ∈ ks, KT P w s.heap q.2 q.1) (few : ks.length ≤ 1000)
    (q : ∀ (h' : Heap) (tk : Nat), Filled P w h' s.heap.objs.size ks ks.length → (∀ b o, s.heap.get? b = some o → h'.get? b = some o) → Q (.ref s.heap.objs.size) { s with heap := h', toks := tk }) :
    wpAny (model P w) A (call (.type "set") [.ref l]) Q E s := by
  obtain ⟨c0, rest, mro⟩ := PySem.F.called_set.mro
  have c1 := PySem.F.called_set.made
  have c2 := PySem.F.called_set.sub
  have c3 := PySem.F.called_set.notType
  have c4 := PySem.F.called_set.canCreate
  have c5 := PySem.F.typeCall_set_1 (.ref l)
  refine wpAny_call (codeAny_of_tree ?_)
  show wpAny _ _ (callAny (.type "set") _) _ _ _
  refine wpAny_pure ⟨Code.quiet_builtin _ (by decide +kernel), codeAny_builtin PySem.F.entry_type_call ?_⟩
  rw [Around.under_plain (weight_type_call_type "set" [.ref l] []) rfl]
  repeat (any_goals (first | assumption | wp_step))
  refine codeAny_mono (code_set_led1 (.ref l) (E := E) (Q₁ := fun v z => v = .ref s.heap.objs.size ∧ z = { s with heap := s.heap.push (SetS.nude (!w.params.followText "set-order")) }) ⟨rfl, rfl⟩) fun r z hr => ?_
  generalize hb : (!w.params.followText "set-order") = b at hr
  cases r with
  | error e => exact hr
  | ok fl =>
    cases fl with
    | ret v =>
      obtain ⟨rfl, rfl⟩ := hr
      have here : (s.heap.push (SetS.nude b)).get? s.heap.objs.size = some (SetS.nude b) := Heap.get?_push_size _ rfl
      have kind : Shared.TypeIs { s with heap := s.heap.push (SetS.nude b) } (.ref s.heap.objs.size) "set" := ⟨_, here, rfl⟩
      have c6 := PySem.F.called_set.init.lookup
      have c7 := PySem.F.called_set.init.bind (.ref s.heap.objs.size)
      repeat (any_goals (first | assumption | wp_step))
      refine codeAny_mono (codeAny_call_builtin (R := wants (fun r z => r = .none ∧ ∃ h' tk, z = { s with heap := h', toks := tk } ∧ Filled P w h' s.heap.objs.size ks ks.length ∧ (∀ b o, s.heap.get? b = some o → h'.get? b = some o)) E)
        PySem.F.called_set.init.plain PySem.F.entry_set_init (check_set_init_1 kind ?_)) fun r z hr => ?_
      · obtain ⟨ob, ho, hcls, nn, hdat⟩ := isl
        obtain ⟨k1, k2, k3, k4⟩ := ob
        dsimp only at hcls hdat
        subst hcls hdat
        have lt0 : l < s.heap.objs.size := Heap.lt_size ho
        have ho2 : (s.heap.push (SetS.nude b)).get? l = some ⟨.type "list", k2, .seq us nn, k4⟩ := Heap.get?_push_of_some _ ho
        have isl2 : (s.heap.push (SetS.nude b)).IsList l us := ⟨_, ho2, rfl, nn, rfl⟩
        have n1 := PySem.F.sub_list_set
        have n2 := PySem.F.sub_list_frozenset
        have n3 : (Value.type "list" == Value.type "dict") = false := by decide
        unfold Builtin.«set.__init__» noKeywords Builtin.Frozenset.updateFrom
        generalize hI : pyIter = I
        wp_walk
        subst hI
        refine wpAny_pyIter_list isl2 ?_
        refine wpAny_bind (wpAny_runValue ?_)
        have led3 : A.in1.in1.in1.handled = none := by simp [led0]
        have many : ks.length = us.size := by
          rw [← Array.length_toList, hit, List.length_map]
        have sz : (s.heap.push (SetS.nude b)).objs.size = s.heap.objs.size + 1 := Heap.size_push ..
        have neI : l ≠ (s.heap.push (SetS.nude b)).objs.size := fun z => by
          rw [sz] at z
          exact absurd lt0 (by rw [z]; exact Nat.not_lt.mpr (Nat.le_succ _))
        have apart : s.heap.objs.size ∉ [(s.heap.push (SetS.nude b)).objs.size, l] := fun hb => by
          simp only [List.mem_cons, List.not_mem_nil, or_false, sz] at hb
          rcases hb with z | z
          · exact absurd z (Nat.ne_of_lt (Nat.lt_succ_self _))
          · exact absurd lt0 (by rw [z]; exact Nat.lt_irrefl _)
        have each : ∀ (i : Nat) (v : Value), us[i]? = some v → ∃ q : Row, ks[i]? = some q ∧ v = Value.ref q.1 := fun i v hv => by
          rw [← Array.getElem?_toList, hit, List.getElem?_map, Option.map_eq_some_iff] at hv
          obtain ⟨q, e1, e2⟩ := hv
          exact ⟨q, e1, e2.symm⟩
        have bare : ∀ c, s.heap.objs.size ≤ c → s.heap.get? c = none := fun c hc => by
          cases e : s.heap.get? c with
          | none => rfl
          | some o => exact absurd (Nat.lt_of_lt_of_le (Heap.lt_size e) hc) (Nat.lt_irrefl _)
        refine fillT ks (many ▸ (Walks.list led3 _ l neI us).toS) apart few each s.heap hk (bare _ (Nat.le_refl _)) (fun c hc => bare c ?_) (by show A.units + 1 + 1 + 1 < cLine; omega) _ 0 _ (Nat.zero_add _) ⟨⟨_, Heap.get?_push_size _ rfl, rfl, rfl⟩, isl2.push _⟩ (fun c o e => Heap.get?_push_of_some _ (Heap.get?_push_of_some _ e)) ⟨[], #[], 0, .fresh 0 0 (!w.params.followText "set-order"), (by subst hb; exact sr_nude (Heap.get?_push_of_some _ here)), Has.none ks⟩ fun z m T k => ?_
        · rw [List.mem_singleton.mp hc, sz]
          exact Nat.le_succ _
        · obtain ⟨h', g', d', tk', os'⟩ := z
          obtain rfl : g' = s.gens := m.gens
          obtain rfl : d' = s.drawn := m.drawn
          obtain rfl : os' = s.os := m.os
          refine wpAny_pure (M := model P w) ?_
          exact wpAny_pure (M := model P w) ⟨rfl, h', tk', rfl, T, k⟩
      · cases r with
        | error e => exact hr
        | ok fl =>
          cases fl with
          | ret v =>
            obtain ⟨rfl, h', tk, rfl, T, keep⟩ := hr
            repeat (any_goals (first | assumption | wp_step))
            exact q _ _ T keep
          | _ => exact hr.elim
    | _ => exact hr.elim
theorem reads_strs (h : Heap) : ∀ {k : List Str} {us : List Value}, ItemsAre (PySem.strKind P w) k us → ReadsAll h us (k.map PyData.str) []
  | [], _, .nil => .nil
  | x :: k, _, .cons h1 t => by
    obtain ⟨tk, rfl⟩ := Value.isStrOf_shape h1
    exact ReadsAll.cons (as := []) (bs := []) (Reads.str x tk) (reads_strs h t)
theorem reads_kt {h : Heap} {k : List Str} {b : Addr} (x : KT P w h k b) : Reads h (.ref b) (.tuple (k.map PyData.str)) [] := by
  obtain ⟨o, items, n, ho, hc, hd, hi⟩ := x
  exact Reads.tuple ho hc hd (reads_strs h hi)
noncomputable abbrev rowD (q : Row) : PyData := .tuple (q.2.map PyData.str)
theorem alike_txt : ∀ xs ys : List Str, PySem.W.alikeAll (xs.map PyData.str) (ys.map PyData.str) = true
  | [], _ => by simp [PySem.W.alikeAll]
  | _ :: _, [] => by simp [PySem.W.alikeAll]
  | x :: xs, y :: ys => by
    rw [List.map_cons, List.map_cons, PySem.W.alikeAll, alike_txt xs ys]
    simp [PySem.W.alike]
theorem depth_txt : ∀ xs : List Str, PyData.depthAll (xs.map PyData.str) = 0
  | [] => by simp [PyData.depthAll]
  | x :: xs => by
    rw [List.map_cons, PyData.depthAll, depth_txt xs]
    simp [PyData.depth]
theorem each_row : ∀ {out : List Value} {bs : List Row}, PySem.W.EachIs (fun v (b : Row) => v = Value.ref b.1) out bs → out = bs.map fun b => Value.ref b.1
  | _, _, .nil => rfl
  | _, _, .cons h t => by rw [List.map_cons, h, each_row t]
theorem row_each : ∀ bs : List Row, PySem.W.EachIs (fun v (b : Row) => v = Value.ref b.1) (bs.map fun b => Value.ref b.1) bs
  | [] => .nil
  | _ :: bs => .cons rfl (row_each bs)
theorem come {L : List Row} : ∀ {vs : List Value}, (∀ v ∈ vs, ∃ q ∈ L, v = Value.ref q.1) → ∃ L1 : List Row, vs = L1.map (fun q => Value.ref q.1) ∧ ∀ q ∈ L1, q ∈ L
  | [], _ => ⟨[], rfl, fun q h => nomatch h⟩
  | v :: vs, h => by
    obtain ⟨q, hq, e⟩ := h v (.head _)
    obtain ⟨L1, e1, e2⟩ := come fun u hu => h u (.tail _ hu)
    exact ⟨q :: L1, by rw [List.map_cons, ← e, ← e1], fun r hr => by cases hr with | head => exact hq | tail _ hr => exact e2 r hr⟩
theorem sorted_tt {a : Addr} {L : List Row} {es : Array (Int × Value)} {ep : Nat} {t : SetTable} {Q : Value → Shared → Prop} (R : SR P w s.heap a L es ep t) (hh : A.handled = none) (hu : A.units + 8 < cLine) (nn : ∀ q ∈ L, q.2 ≠ [])
    (q : ∀ s' p (out : Array Value) (c : Nat) (L' : List Row), (∀ b o, s.heap.get? b = some o → s'.heap.get? b = some o) → s'.gens = s.gens → s'.os = s.os → s.heap.objs.size ≤ p → s'.heap.get? p = some (seqObj "list" out c) → out.toList = (L'.mergeSort (PySem.W.dataLe false rowD)).map (fun q => Value.ref q.1) → L'.Perm L → Q (.ref p) s') :
    wpAny (model P w) A (call (.builtin "sorted") [.ref a]) Q E s := by
  obtain ⟨o, ho, hex, hd⟩ := R.ob
  have sz := R.size
  have few := R.few
  refine Calls.call_function_entry kind_sorted plain_sorted entry_sorted (args_sorted1 _) ?_
  unfold Builtin.«sorted»
  refine wpAny_bind (m := checkCount "sorted" 1 1 _) (wpAny_pure ?_)
  refine wpAny_bind (collect_set (A := A.in1) hh ⟨o, ho, hex.1, hd⟩ R.fits (by unfold scanBound; omega) R.tab.ris R.led fun s1 vs k1 z1 g1 o1 pm => ?_)
  have ev : es.toList.map (·.2) = L.map fun q => Value.ref q.1 := by
    rw [R.rows, rws, List.map_map]
    rfl
  rw [ev] at pm
  obtain ⟨L1, e1, e2⟩ := come fun v hv => (List.mem_map.mp (pm.mem_iff.mp hv)).elim fun q h => ⟨q, h.1, h.2.symm⟩
  have one : ∀ q ∈ L, ∀ r ∈ L, q.1 = r.1 → q = r := fun q hq r hr e => by
    have a1 := R.tup q hq
    rw [e] at a1
    exact Prod.ext e (a1.inj (R.tup r hr))
  have nL : L.Nodup := nodup_of_map R.nd
  have pL : L1.Perm L := by
    have nr : (L.map fun q => Value.ref q.1).Nodup := List.pairwise_map.mpr (nL.imp_of_mem fun {q r} hq hr ne e => ne (one q hq r hr (Value.ref.inj e)))
    have n1 : L1.Nodup := nodup_of_map (e1 ▸ pm.nodup_iff.mpr nr : (L1.map fun q => Value.ref q.1).Nodup)
    refine (List.perm_ext_iff_of_nodup n1 nL).mpr fun q => ⟨e2 q, fun hq => ?_⟩
    obtain ⟨r, hr, e⟩ := List.mem_map.mp (e1 ▸ pm.mem_iff.mpr (List.mem_map.mpr ⟨q, hq, rfl⟩) : Value.ref q.1 ∈ L1.map fun q => Value.ref q.1)
    exact one r (e2 r hr) q hq (Value.ref.inj e) ▸ hr
  have ln : L1.length ≤ 1000 := pL.length_eq ▸ few
  have lv : vs.length = L1.length := by rw [e1, List.length_map]
  refine wpAny_bind (wpAny_newList ?_ (by rw [lv, sizeLine_eq]; omega))
  have hoL : (s1.heap.push (seqObj "list" vs.toArray 0)).get? s1.heap.objs.size = some (seqObj "list" vs.toArray 0) := Heap.get?_push_size _ rfl
  have er : PySem.W.EachIs (fun v (b : Row) => ∃ as, Reads (s1.heap.push (seqObj "list" vs.toArray 0)) v (rowD b) as ∧ s1.heap.objs.size ∉ as) vs L1 := by
    have key : ∀ l : List Row, (∀ q ∈ l, q ∈ L) → PySem.W.EachIs (fun v (b : Row) => ∃ as, Reads (s1.heap.push (seqObj "list" vs.toArray 0)) v (rowD b) as ∧ s1.heap.objs.size ∉ as) (l.map fun b => Value.ref b.1) l := by
      intro l
      induction l with
      | nil => exact fun _ => .nil
      | cons b l ih => exact fun h => .cons ⟨[], reads_kt (P := P) (w := w) (kt_up (R.tup b (h b (.head _))) fun c u e => Heap.get?_push_of_some _ (k1 c u e)), by simp⟩ (ih fun q hq => h q (.tail _ hq))
    have h := key L1 e2
    rwa [← e1] at h
  refine wpAny_bind (wpAny_holding (PySem.W.list_sort_data (s := { s1 with heap := s1.heap.push (seqObj "list" vs.toArray 0) }) hoL (R := fun v (b : Row) => v = Value.ref b.1) (bs := L1) (enc := rowD) (by rw [e1]; exact row_each L1) er
    (PySem.W.AllAlike.of fun b b' => by show PySem.W.alike (.tuple _) (.tuple _) = true; rw [PySem.W.alike]; exact alike_txt _ _) (.inl fun d hd => ?_) (by rw [sizeLine_eq]; omega) (fun b _ => ?_) fun out hol hout => ?_))
  · obtain ⟨b, hb, rfl⟩ := List.mem_map.mp hd
    cases e : b.2 with
    | nil => exact absurd e (nn b (e2 b hb))
    | cons x r => exact ⟨.str x, r.map PyData.str, by show PyData.tuple (b.2.map PyData.str) = _; rw [e]; rfl⟩
  · show A.units + 1 + 1 + (PyData.tuple (b.2.map PyData.str)).depth < cLine
    rw [PyData.depth, depth_txt]
    omega
  · have eo := each_row hout
    obtain ⟨c, hc⟩ := PyProof.Rows.sortedHeap_at (vs := vs) (out := out.toArray) hoL
    refine wpAny_pure ⟨_, rfl, q _ s1.heap.objs.size out.toArray c L1 (fun b u e => ?_) g1 o1 z1 hc eo pL⟩
    have e' := k1 b u e
    have lt := Heap.lt_size e'
    show (sortedHeap (s1.heap.push (seqObj "list" vs.toArray 0)) s1.heap.objs.size vs out.toArray).get? b = some u
    rw [PyProof.Rows.sortedHeap_old (Nat.ne_of_lt lt) (by rw [size_push']; exact Nat.lt_succ_of_lt lt)]
    exact Heap.get?_push_of_some _ e'
end
end TT
namespace L2
open PySem PySem.Spec PyProof.Rows
noncomputable def tSortedSet (K : PySem.W.Frag) (ta : TE) : TE := fun σ H Q => ta σ H fun v H1 => ∃ (l : Addr) (ks : List TT.Row), v = .ref l ∧ SqL K H1 l (ks.map fun q => V.ref q.1) ∧ (∀ q ∈ ks, SqT K H1 q.1 (q.2.map V.str) ∧ q.2 ≠ []) ∧ ks.length ≤ 1000 ∧
  ∀ (L : List TT.Row) (p : Addr), (∀ q ∈ L, q ∈ ks) → (∀ q ∈ ks, q.2 ∈ L.map (·.2)) → (L.map (·.2)).Nodup → H1 p = none → Q (.ref p) (upd H1 p (.lst ((L.mergeSort (PySem.W.dataLe false TT.rowD)).map fun q => V.ref q.1)))
theorem items_txt {P : Program} {w : World} : ∀ {k : List Str} {us : List Value}, Vals (k.map V.str) us → ItemsAre (PySem.strKind P w) k us
  | [], _, .nil => .nil
  | x :: k, _, .cons r t => by
    obtain ⟨tk, rfl⟩ := r
    exact .cons (PySem.strKind_is P w x tk) (items_txt t)
theorem refs_txt : ∀ {ks : List TT.Row} {us : List Value}, Vals (ks.map fun q => V.ref q.1) us → us = ks.map fun q => Value.ref q.1
  | [], _, .nil => rfl
  | q :: ks, _, .cons r t => by
    cases r
    rw [refs_txt t]
    rfl
theorem txt_refs : ∀ (ks : List TT.Row), Vals (ks.map fun q => V.ref q.1) (ks.map fun q => Value.ref q.1)
  | [] => .nil
  | q :: ks => .cons rfl (txt_refs ks)
section
variable {X : Cx}
theorem pe_sortedSet {a : Expr} {ta : TE} {p p2 q pos : Pos} (calm : X.calm = true) (hu : X.A.units + 32 < cLine) (g1 : Gl X "sorted") (m1 : X.mg "sorted" = none) (g2 : Gl X "set") (m2 : X.mg "set" = none) (ha : PE X a ta)
    (st : autoParam (starEach [a] X.env = (false, eval a X.env) :: starEach [] X.env) Tw.aRfl) : PE X (.Call (.Name "sorted" p) [.Call (.Name "set" p2) [a] [] q] [] pos) (tSortedSet X.K ta) := by
  refine ⟨fun pins s σ H Q I h => Call_ (ld_blt I g1 m1 boot_sorted (callWith_builtin1 (args_cons ?_ rfl) rfl rfl))⟩
  refine Call_ (ld_blt I g2 m2 boot_set (callWith_type1 (args_cons (thn (ha.run pins s σ H _ I h) fun v z ⟨y, H1, I1, r1, l, ks, ex, hq, hk, few, q1⟩ => args_nil ?_) st) st rfl))
  subst ex
  cases r1
  obtain ⟨its, r, pl, hz⟩ := I1.list hq
  have kt : ∀ q ∈ ks, TT.KT X.prog X.w z.heap q.2 q.1 := fun q hq => by
    obtain ⟨us, r, ⟨o, ho, hc, n, hd⟩, _⟩ := I1.tuple (hk q hq).1
    exact ⟨o, us.toArray, n, ho, hc, hd, by simpa using items_txt r⟩
  refine TT.makeT (P := X.prog) (w := X.w) (I1.ok.hd calm) (by show X.A.units + 8 < cLine; omega) pl.isList (by simpa using refs_txt r) kt few fun h' tk T keep => args_nil ?_
  obtain ⟨L, es, ep, t, R, g1', g2', _⟩ := T
  rw [List.take_length] at g1' g2'
  have I2 : Inv X pins σ H1 { z with heap := h', toks := tk } := I1.kept keep
  refine TT.sorted_tt (s := { z with heap := h', toks := tk }) R (I2.ok.hd calm) (by show X.A.units + 8 < cLine; omega) (fun q hq => (hk q (g1' q hq)).2) fun s' p out c L' k g o hp hg hout perm => ?_
  have n0 : H1 p = none := I2.hok.fresh hp
  generalize hS : L'.mergeSort (PySem.W.dataLe false TT.rowD) = L2 at hout
  have len : (L2.map fun q => V.ref q.1).length ≤ sizeLine := by
    have e : L2.length = L'.length := by rw [← hS, List.length_mergeSort]
    have e2 := perm.length_eq
    have := R.few
    rw [List.length_map, e, sizeLine_eq]
    omega
  have J : Inv X pins σ (upd H1 p (.lst (L2.map fun q => V.ref q.1))) { ({ z with heap := h', toks := tk } : Shared) with heap := s'.heap, gens := s'.gens, drawn := s'.drawn, toks := s'.toks } :=
    I2.call (ch := []) (Un.laid k hp n0) (I2.hok.laid k hp ⟨len, out.toList, c, by rw [hout]; exact txt_refs L2, hg⟩) (by rw [g]; exact I2.bare) (fun _ z => nomatch z)
  have e : s' = { ({ z with heap := h', toks := tk } : Shared) with heap := s'.heap, gens := s'.gens, drawn := s'.drawn, toks := s'.toks } := by
    cases s'
    cases z
    cases o
    rfl
  rw [e]
  exact ⟨.ref p, _, J, rfl, hS ▸ q1 L' p (fun q hq => g1' q (perm.mem_iff.mp hq)) (fun q hq => (perm.map (·.2)).mem_iff.mpr (g2' q hq)) ((perm.map (·.2)).nodup_iff.mpr R.nd) n0⟩
end
end L2
namespace Tw
open PySem PySem.SeqAt PySem.Spec PyProof.Rows L2 TL
theorem Has.weak {α : Type} {i j : Rep α} {P : Program} {w : World} {K : PySem.W.Frag} {mg : Str → Option Value} {base : Heap} {k : Nat} {n p1 : Str} {S : Spec} (hij : ∀ {K F v x}, j.rp K F v x → i.rp K F v x) (G : Has P w K mg base k n [p1] S) : Has P w K mg base k n [p1] (fun A Q R => ∃ x, A = [.val j x] ∧ S [.val i x] Q R) := ⟨by
  obtain ⟨f, fd, a, b, c, d⟩ := G.ex
  refine ⟨f, fd, a, b, c, d.imp fun vs H Q E ⟨F, A, s, ok, ap, x, e, h⟩ => ?_⟩
  subst e
  have em : MA [Slot.val j x] = MA [Slot.val i x] := funext fun b => propext ⟨fun ⟨o, h, _⟩ => by simp at h, fun ⟨o, h, _⟩ => by simp at h⟩
  rw [em] at h
  match vs, ok with
  | [v], ok => exact ⟨F, [.val i x], s, ⟨hij ok.1, trivial⟩, fun p q o1 o2 _ h1 _ => by rcases p with _ | p <;> simp at h1, h⟩⟩
noncomputable def ownLL (a : Addr) (ts : List Addr) (xs : List (List Tx)) : Own where
  fp := a :: ts
  root := .ref a
  ok := fun K F H v => v = .ref a ∧ H a = some (.lst (ts.map fun t => V.ref t)) ∧ a ∉ ts ∧ Paired (fun (t : Addr) (x : List Tx) => ∃ vs, H t = some (.lst vs) ∧ Paired (fun u y => repTx.rp K F u y) vs x) ts xs
  stay := fun s k ⟨e, h, n, p⟩ => ⟨e, k a (List.mem_cons_self ..) _ h, n, Paired.mapP (pmem p) fun t x ⟨⟨vs, h2, h3⟩, hm⟩ => ⟨vs, k t (List.mem_cons_of_mem _ hm) _ h2, Paired.mapP h3 fun _ _ q => repTx.mono s q⟩⟩
  there := fun ⟨_, h, n, p⟩ b hb z => by
    rcases List.mem_cons.mp hb with rfl | hb
    · rw [h] at z; cases z
    · obtain ⟨x, vs, h2, _⟩ := pget p hb
      rw [h2] at z; cases z
  rt := fun h => h.1
theorem frozLL {a : Addr} {ts : List Addr} {xs : List (List Tx)} : Froz (ownLL a ts xs) xs := fun {K F H v} s ok f => by
  obtain ⟨e, h1, _, p⟩ := id ok
  refine ⟨a, _, e, (frz_in (List.mem_cons_self ..)).trans h1, ?_⟩
  have go : ∀ {us : List Addr} {ys : List (List Tx)}, Paired (fun (t : Addr) (x : List Tx) => (∃ vs, H t = some (.lst vs) ∧ Paired (fun u y => repTx.rp K F u y) vs x) ∧ t ∈ ts) us ys → Paired (fun u (x : List Tx) => (repList : Rep (List Tx)).rp K (frz F H (ownLL a ts xs).fp) u x) (us.map fun t => V.ref t) ys := fun {us ys} q => by
    induction q with
    | nil => exact .nil
    | @cons t x us ys h _ ih =>
      obtain ⟨⟨vs, q2, q3⟩, hm⟩ := h
      exact .cons ⟨t, vs, rfl, (frz_in (List.mem_cons_of_mem _ hm)).trans q2, Paired.mapP q3 fun _ _ z => repTx.mono (frz_le f) z⟩ ih
  exact go (pmem p)
theorem ptrs_pair {K : PySem.W.Frag} {F : Hp} : ∀ ts : List Addr, Paired (fun u (x : Ptr) => repPtr.rp K F u x) (ts.map fun t => V.ref t) (ts.map Ptr.mk)
  | [] => .nil
  | _ :: ts => .cons rfl (ptrs_pair ts)
theorem frozLLp {a : Addr} {ts : List Addr} {xs : List (List Tx)} : Froz (ownLL a ts xs) (ts.map Ptr.mk) := fun {K F H v} s ok f =>
  ⟨a, _, ok.1, (frz_in (List.mem_cons_self ..)).trans ok.2.1, ptrs_pair ts⟩
noncomputable def ownLA (a : Addr) (ts : List Addr) (n : Nat) : Own where
  fp := a :: ts
  root := .ref a
  ok := fun K F H v => v = .ref a ∧ H a = some (.lst (ts.map fun t => V.ref t)) ∧ a ∉ ts ∧ ∀ t ∈ ts, ∃ vs, H t = some (.lst vs) ∧ vs.length ≤ n
  stay := fun s k ⟨e, h, n, p⟩ => ⟨e, k a (List.mem_cons_self ..) _ h, n, fun t ht => by
    obtain ⟨vs, h1, h2⟩ := p t ht
    exact ⟨vs, k t (List.mem_cons_of_mem _ ht) _ h1, h2⟩⟩
  there := fun ⟨_, h, n, p⟩ b hb z => by
    rcases List.mem_cons.mp hb with rfl | hb
    · rw [h] at z; cases z
    · obtain ⟨vs, h2, _⟩ := p b hb
      rw [h2] at z; cases z
  rt := fun h => h.1
theorem frozLAp {a : Addr} {ts : List Addr} {n : Nat} : Froz (ownLA a ts n) (ts.map Ptr.mk) := fun {K F H v} s ok f =>
  ⟨a, _, ok.1, (frz_in (List.mem_cons_self ..)).trans ok.2.1, ptrs_pair ts⟩
theorem away_down {α : Type} [i : Rep α] {F0 : Hp} {K : PySem.W.Frag} {F : Hp} {v : V} {x : List α} (h : (repAwayL F0).rp K F v x) : (repList : Rep (List α)).rp K F v x := by
  obtain ⟨a, vs, e, h, p, _⟩ := h
  exact ⟨a, vs, e, h, p⟩
theorem lists_of {K : PySem.W.Frag} {F0 F : Hp} : ∀ {vs : List V} {ys : List (List Tx)}, Paired (fun u x => (repAwayL F0).rp K F u x) vs ys → ∃ ts : List Addr, vs = ts.map (fun t => V.ref t) ∧ Paired (fun (t : Addr) (x : List Tx) => (∃ ws, F t = some (.lst ws) ∧ Paired (fun u y => repTx.rp K F u y) ws x) ∧ F0 t = none) ts ys
  | _, _, .nil => ⟨[], rfl, .nil⟩
  | _, _, .cons (b := x) h t => by
    obtain ⟨ts, e, p⟩ := lists_of t
    obtain ⟨c, ws, rfl, h2, h3, h4⟩ := h
    exact ⟨c :: ts, by rw [e]; rfl, .cons ⟨⟨ws, h2, h3⟩, h4⟩ p⟩
section
variable {X : Cx} {Γ : List Slot} {α β γ δ : Type} {i : Rep α} {j : Rep β} {lr : Rep γ} {pos p p0 p2 p3 : Pos} {e a b c elt tg it : Expr} {es : List Expr} {E : SE} {rest sts body : List Stmt}
theorem ev_away {F0 : Hp} {iz : Rep γ} {z : γ} (kz : Nat) {xs : List α} (h : EN X Γ e xs) (hz : autoParam (Γ[kz]? = some (.val (repGho iz F0) z)) aRfl) : @EV X Γ e (List α) (repAwayL F0) xs := fun B F H σ Q L q => by
  obtain ⟨_, _, _, g⟩ := slot_val L hz
  refine h B F H σ _ L fun a vs F' H' ex ha fa h' p => ?_
  have sm : Same F' (upd F' a (.lst vs)) := fun b u e => by rw [upd_ne (ne_of_none e fa)]; exact e
  have n0 : F0 a = none := by
    cases q0 : F0 a with
    | none => rfl
    | some o => rw [L.same _ _ (g _ _ q0)] at ha; cases ha
  refine q (.ref a) (upd F' a (.lst vs)) H' ⟨ex.ff.trans sm, fun b u e => ?_, ex.hh, fun b _ h1 h2 => ?_, fun _ z => z.elim⟩ ⟨a, vs, rfl, upd_same, Paired.mapP p fun _ _ q => i.mono sm q, n0⟩
  · by_cases hb : b = a
    · subst hb; rw [upd_same] at e; rw [← e]; exact h'
    · rw [upd_ne hb] at e; exact ex.fh _ _ e
  · rw [upd_ne (fun z => by subst z; exact h2 ha)]; exact ex.nw b h1 h2
noncomputable abbrev awayE (F0 : Hp) (ys : List (List Tx)) : SE := ⟨fun _ => False, fun r => r = .new (repAwayL F0) ys, fun _ => False, fun _ => False, fun _ _ => False⟩
theorem st_tellLL (kz : Nat) {z : γ} {ys : List (List Tx)} {P0 : Own → Prop} (hr : ∀ F0, ST X sts (Γ.set kz (.val (repGho lr F0) z)) (awayE F0 ys)) (hP : E.rt (.own P0)) (hP0 : ∀ a ts, ts.length = ys.length → P0 (ownLL a ts ys)) (hz : autoParam (Γ[kz]? = some (.val lr z)) aRfl) : ST X sts Γ E := fun B F H σ D L ed => by
  refine hr F B F H σ D (L.ghost hz) ⟨fun _ _ _ _ _ z => z.elim, fun r v F2 H2 er ext rok => ?_, fun _ _ _ _ _ z => z.elim, fun _ _ _ _ _ z => z.elim, fun _ _ _ _ _ _ _ _ z => z.elim⟩
  subst er
  obtain ⟨a2, vs, rfl, nwA, fa2, h2, pr2⟩ := rok
  obtain ⟨ts, rfl, tp⟩ := lists_of pr2
  have bF : Same B.F F := L.ext.ff
  have hps : ∀ b ∈ ts, (∃ ws, F2 b = some (.lst ws)) ∧ F b = none := fun b hb => by
    obtain ⟨x, ⟨ws, h, _⟩, h4⟩ := pget tp hb
    exact ⟨⟨ws, h⟩, h4⟩
  have key : ∀ b u, b ∉ ts → F2 b = some u → (if b ∈ ts then none else F2 b) = some u := fun b u hb h => by rw [if_neg hb]; exact h
  refine ed.rt (.own P0) _ (fun b => if b ∈ ts then none else F2 b) H2 hP ⟨fun b u hb => ?_, fun b u hb => ?_, ext.hh, fun b hb1 hb2 hb3 => ?_, ext.th⟩ ⟨ownLL a2 ts ys, hP0 _ _ (Paired.length tp), fun b hb => ?_, rfl, h2, fun ht => ?_, ?_⟩
  · exact key b u (fun hm => by have := bF _ _ hb; rw [(hps b hm).2] at this; cases this) (ext.ff _ _ hb)
  · have hb : (if b ∈ ts then none else F2 b) = some u := hb
    split at hb
    · cases hb
    · exact ext.fh _ _ hb
  · show (if b ∈ ts then none else F2 b) = none
    split
    · rfl
    · exact ext.nwM b hb1 hb2 hb3
  · rcases List.mem_cons.mp hb with rfl | hb
    · refine ⟨nwA, ?_⟩
      show (if _ then none else F2 _) = none
      split
      · rfl
      · exact fa2
    · obtain ⟨⟨ws, h1⟩, h3⟩ := hps b hb
      refine ⟨?_, if_pos hb⟩
      by_cases hM : B.M b
      · exact .inr hM
      · refine .inl ?_
        cases q : B.H b with
        | none => rfl
        | some o =>
          have hBF : B.F b = none := by
            cases q2 : B.F b with
            | none => rfl
            | some o2 => rw [bF _ _ q2] at h3; cases h3
          have := ext.nwM b hM hBF (by rw [q]; exact fun z => nomatch z)
          rw [h1] at this; cases this
  · obtain ⟨⟨ws, h1⟩, _⟩ := hps _ ht
    rw [fa2] at h1; cases h1
  · exact Paired.mapP tp fun t x ⟨⟨ws, q2, q3⟩, q4⟩ => ⟨ws, ext.fh _ _ q2, Paired.mapP q3 fun _ _ z => z⟩
theorem st_setInner (k jx : Nat) {ad t : Addr} {ts : List Addr} {x : List Tx} {xs : List (List Tx)} {y : α} {z : Int} {n M : Nat} {sp : Pos} {sl : Expr} (he : EV X Γ e y) (hb0 : EV X Γ b (Ptr.mk t)) (hi : EV X Γ sl z) (hz : ixN x.length z = some n) (ht : ts[jx]? = some t) (hx : xs[jx]? = some x) (hM : ∀ x ∈ xs, x.length ≤ M)
    (hr : ST X rest (Γ.set k (.own (ownLA ad ts M))) E) (hg : autoParam (Γ[k]? = some (.own (ownLL ad ts xs))) aRfl)
    (hpg : autoParam (∀ v, assign (.Subscript b sl sp) X.env v = (do
      let ov ← holding [v] (eval b X.env)
      let iv ← holding [v, ov] (eval sl X.env)
      standAt sp
      holding [v, ov, iv] (setItem ov iv v)
      release [v, ov, iv] [])) Tw.aIR1)
    (hs : autoParam (swapsWithSole [.Subscript b sl sp] e pos.line X.env = pure false) aRfl) (hw : autoParam (swappedStores [.Subscript b sl sp] e X.env = pure none) aRfl)
    (h1 : autoParam ((assignEach [.Subscript b sl sp] X.env).map (·.2) = [assign (.Subscript b sl sp) X.env]) aRfl) :
    ST X (.Assign [.Subscript b sl sp] e pos :: rest) Γ E := fun B F H σ D L ed => by
  refine WP.cons (ps_asg peW (pg_sub peW peW set_list hpg) hs hw h1) (he B F H σ _ L fun v F1 H1 e1 r1 => hb0 B F1 H1 σ _ (L.step e1) fun v00 F0 H0 e0 r00 => hi B F0 H0 σ _ (L.step (e1.trans e0)) fun u F2 H2 e2 r2 => ?_)
  obtain rfl : v00 = V.ref t := r00
  have L2 := L.step ((e1.trans e0).trans e2)
  obtain ⟨v0, ev0, ok0, fo0⟩ := slot_own L2 hg
  obtain ⟨ea, ha, na, pr⟩ := id ok0
  have ht' := List.mem_of_getElem? ht
  obtain ⟨t', ht2, vs, hv, pv⟩ := pgetL pr hx
  obtain rfl : t' = t := by rw [ht] at ht2; exact (Option.some.inj ht2).symm
  have hta : t' ≠ ad := fun z => na (z ▸ ht')
  have len : vs.length = x.length := Paired.length pv
  refine ⟨t', vs, z, n, rfl, r2, hv, by rw [len]; exact hz, ?_⟩
  refine hr B F2 _ σ D (L2.updO (o' := ownLA ad ts M) hg ev0 (fun b o hb h => ?_) (fun b hb => ?_) (fun b hb => .inl hb) ⟨ea, ?_, na, fun t2 h2 => ?_⟩) (ed.weak ((e1.trans e0).trans e2).ff)
  · rw [upd_ne (fun e => hb (by rw [e]; exact List.mem_cons_of_mem _ ht'))]; exact h
  · by_cases hbt : b = t'
    · rw [hbt, upd_same]; exact fun z => nomatch z
    · rw [upd_ne hbt]
      exact (ownLL ad ts xs).there ok0 b hb
  · rw [upd_ne (Ne.symm hta)]; exact ha
  · by_cases hbt : t2 = t'
    · subst hbt
      exact ⟨_, upd_same, by rw [List.length_set, len]; exact hM _ (List.mem_of_getElem? hx)⟩
    · obtain ⟨y2, ⟨vs2, hv2, pv2⟩, hm2⟩ := pget (show Paired (fun (t : Addr) (x : List Tx) => (∃ vs, H2 t = some (.lst vs) ∧ Paired (fun u y => repTx.rp X.K F2 u y) vs x) ∧ x.length ≤ M) ts xs from by
        have key : ∀ {l : List Addr} {m : List (List Tx)}, (∀ x ∈ m, x.length ≤ M) → Paired (fun (t : Addr) (x : List Tx) => ∃ vs, H2 t = some (.lst vs) ∧ Paired (fun u y => repTx.rp X.K F2 u y) vs x) l m → Paired (fun (t : Addr) (x : List Tx) => (∃ vs, H2 t = some (.lst vs) ∧ Paired (fun u y => repTx.rp X.K F2 u y) vs x) ∧ x.length ≤ M) l m := fun {l m} hm p => by
          induction p with
          | nil => exact .nil
          | cons h _ ih => exact .cons ⟨h, hm _ (List.mem_cons_self ..)⟩ (ih fun x hx => hm x (List.mem_cons_of_mem _ hx))
        exact key hM pr) h2
      exact ⟨vs2, by rw [upd_ne hbt]; exact hv2, by rw [Paired.length pv2]; exact hm2⟩
theorem st_appendLA (k : Nat) {ad t : Addr} {ts : List Addr} {n : Nat} {y : α} {apos cpos : Pos} (he : EV X Γ e y) (hb0 : EV X Γ b (Ptr.mk t)) (ht : t ∈ ts) (hn : n < sizeLine) (hr : ST X rest (Γ.set k (.lst repAny ad (List.replicate ts.length ()))) E) (hg : autoParam (Γ[k]? = some (.own (ownLA ad ts n))) aRfl)
    (hbase : autoParam (attributeBase b "append" X.env (eval b X.env) = eval b X.env) aRfl)
    (hfew : autoParam (((backTo cpos (starEach [e] X.env)).all (fun x => !x.1) && (backToKw cpos (keywordEach [] X.env)).all (fun x => x.1.isSome) && decide ([e].length + ([] : List Keyword).length + (if ([] : List Keyword).isEmpty then 0 else 1) < 30)) = true) aRfl)
    (hline : autoParam ((apos.endLine == cpos.line) = true) aRfl) (hs : autoParam (starEach [e] X.env = (false, eval e X.env) :: starEach [] X.env) aStar) (hplain : autoParam ((backTo cpos (starEach [] X.env)).any (·.1) = false) aRfl)
    (hsw : autoParam (swapsWith (.Call (.Attribute b "append" apos) [e] [] cpos) none pos.line X.env = pure false) aRfl) :
    ST X (.Expr (.Call (.Attribute b "append" apos) [e] [] cpos) pos :: rest) Γ E := fun B F H σ D L ed => by
  refine WP.cons (ps_expr (pe_bm PySem.F.plainAttrs_list PySem.F.slot_list_append PySem.F.type_list_append mt_append peW (pa_cons peW pa_nil hs) hbase hfew hline hs hplain) hsw) ?_
  refine hb0 B F H σ _ L fun v00 F0 H0 e0 r00 => ?_
  obtain rfl : v00 = V.ref t := r00
  have L0 := L.step e0
  obtain ⟨v0, ev0, ok0, fo0⟩ := slot_own L0 hg
  obtain ⟨ws, hw, _⟩ := ok0.2.2.2 t ht
  refine ⟨.inl ⟨rfl, _, .inl (.inl hw)⟩, he B F0 H0 σ _ L0 fun u F1 H1 e1 r1 => ?_⟩
  have L1 := L0.step e1
  obtain ⟨v1, ev1, ok1, fo1⟩ := slot_own L1 hg
  obtain ⟨ea, ha, na, pr⟩ := id ok1
  obtain ⟨ws1, hw1, hl1⟩ := pr t ht
  have hta : t ≠ ad := fun z => na (z ▸ ht)
  refine ⟨t, ws1, u, rfl, rfl, hw1, by omega, ?_⟩
  refine hr B F1 _ σ D (L1.updO (o' := ownL repAny ad (List.replicate ts.length ())) hg ev1 (fun b o hb h => ?_) (fun b hb => ?_) (fun b hb => .inl (by rw [List.mem_singleton.mp hb]; exact List.mem_cons_self ..)) ⟨ea, ts.map (fun t => V.ref t), ?_, ?_⟩) (ed.weak (e0.ff.trans e1.ff))
  · rw [upd_ne (fun e => hb (by rw [e]; exact List.mem_cons_of_mem _ ht))]; exact h
  · by_cases hbt : b = t
    · rw [hbt, upd_same]; exact fun z => nomatch z
    · rw [upd_ne hbt]
      exact (ownLA ad ts n).there ok1 b hb
  · rw [upd_ne (Ne.symm hta)]; exact ha
  · have : ∀ l : List V, Paired (fun u (x : Unit) => repAny.rp X.K F1 u x) l (List.replicate l.length ()) := fun l => by
      induction l with
      | nil => exact .nil
      | cons a l ih => exact .cons trivial ih
    have h2 := this (ts.map fun t => V.ref t)
    rw [List.length_map] at h2
    exact h2
end
theorem txt_lt : ∀ xs ys : List Str, PySem.W.rowLt (xs.map PyData.str) (ys.map PyData.str) = decide (xs.map tl < ys.map tl)
  | [], [] => by
    have e : PySem.W.rowLt (([] : List Str).map PyData.str) (([] : List Str).map PyData.str) = false := PyProof.Rows.lex_irrefl _
    rw [e]; simp
  | [], y :: ys => by
    have e : PySem.W.rowLt (([] : List Str).map PyData.str) ((y :: ys).map PyData.str) = true := by
      rw [List.map_cons]
      unfold PySem.W.rowLt
      rw [PySem.W.toks_all_cons]
      simp only [List.map_nil, PySem.W.keyToksAll]
      rw [PyProof.Rows.lex_diff (O := PyProof.Rows.itemOrd) (by simp)]
      rfl
    rw [e]; simp
  | x :: xs, [] => by
    have e : PySem.W.rowLt ((x :: xs).map PyData.str) (([] : List Str).map PyData.str) = false := by
      rw [List.map_cons]
      unfold PySem.W.rowLt
      rw [PySem.W.toks_all_cons]
      simp only [List.map_nil, PySem.W.keyToksAll]
      rw [PyProof.Rows.lex_diff (O := PyProof.Rows.itemOrd) (by simp)]
      rfl
    rw [e]; simp
  | x :: xs, y :: ys => by
    have e : PySem.W.rowLt ((x :: xs).map PyData.str) ((y :: ys).map PyData.str) = if x = y then PySem.W.rowLt (xs.map PyData.str) (ys.map PyData.str) else decide (tl x < tl y) := by
      rw [List.map_cons, List.map_cons]
      unfold PySem.W.rowLt
      rw [PySem.W.dataLt_cons (by simp [PySem.W.alike]), PySem.W.dataLt_str]
      by_cases h : x = y
      · rw [if_pos h, if_pos (by rw [h]; simp [PyData.eqv])]
      · rw [if_neg h, if_neg (fun z => h (by
          have z : (x == y) = true := by simpa [PyData.eqv] using z
          exact eq_of_beq z))]
    rw [e, List.map_cons, List.map_cons]
    have ne : tl x = tl y ↔ x = y := ⟨fun z => by rw [← sx_tl x, z, sx_tl], fun z => by rw [z]⟩
    by_cases h : x = y
    · rw [if_pos h, txt_lt xs ys]
      simp [h, List.cons_lt_cons_iff]
    · rw [if_neg h]
      have h2 : tl x ≠ tl y := fun z => h (ne.mp z)
      simp [h2, List.cons_lt_cons_iff]
noncomputable abbrev rowLe (a b : Tup Tx) : Bool := !decide (b.l < a.l)
noncomputable def upR (q : TT.Row) : Tup Tx := ⟨q.2.map tl⟩
theorem rowLe_is (a b : TT.Row) : PySem.W.dataLe false TT.rowD a b = rowLe (upR a) (upR b) := by
  rw [PySem.W.dataLe_eq]
  show (!PySem.W.dataLt (TT.rowD b) (TT.rowD a)) = _
  rw [PySem.W.dataLt_tuple]
  exact congrArg (fun z => !z) (txt_lt b.2 a.2)
theorem rise_eq {A : Type} {lt : A → A → Prop} (ir : ∀ a, ¬ lt a a) (tr : ∀ a b c, lt a b → lt b c → lt a c) : ∀ {l m : List A}, l.Pairwise lt → m.Pairwise lt → (∀ x, x ∈ l ↔ x ∈ m) → l = m
  | [], [], _, _, _ => rfl
  | [], y :: m, _, _, h => (List.not_mem_nil ((h y).mpr (.head _))).elim
  | x :: l, [], _, _, h => (List.not_mem_nil ((h x).mp (.head _))).elim
  | x :: l, y :: m, pl, pm, h => by
    obtain ⟨p1, p2⟩ := List.pairwise_cons.mp pl
    obtain ⟨q1, q2⟩ := List.pairwise_cons.mp pm
    have e : x = y := by
      rcases List.mem_cons.mp ((h x).mp (.head _)) with z | z
      · exact z
      rcases List.mem_cons.mp ((h y).mpr (.head _)) with z2 | z2
      · exact z2.symm
      · exact (ir x (tr _ _ _ (p1 y z2) (q1 x z))).elim
    subst e
    refine congrArg (x :: ·) (rise_eq ir tr p2 q2 fun z => ⟨fun hz => ?_, fun hz => ?_⟩)
    · rcases List.mem_cons.mp ((h z).mp (.tail _ hz)) with e | e
      · exact (ir x (e ▸ p1 z hz)).elim
      · exact e
    · rcases List.mem_cons.mp ((h z).mpr (.tail _ hz)) with e | e
      · exact (ir x (e ▸ q1 z hz)).elim
      · exact e
theorem rise_sort {A : Type} {lt : A → A → Prop} [DecidableRel lt] (ir : ∀ a, ¬ lt a a) (tr : ∀ a b c, lt a b → lt b c → lt a c) (tri : ∀ a b, lt a b ∨ a = b ∨ lt b a) {l : List A} (nd : l.Nodup) : (l.mergeSort fun a b => !decide (lt b a)).Pairwise lt := by
  have no : ∀ a b, (!decide (lt b a)) = true ↔ ¬ lt b a := fun a b => by simp
  have h1 := List.pairwise_mergeSort (le := fun a b => !decide (lt b a)) (fun a b c h1 h2 => (no a c).mpr fun h3 => by
      have h1 := (no a b).mp h1
      have h2 := (no b c).mp h2
      rcases tri a b with z | z | z
      · exact h2 (tr _ _ _ h3 z)
      · exact h2 (z ▸ h3)
      · exact h1 z) (fun a b => by
      rcases tri a b with z | z | z
      · rw [(no a b).mpr fun z2 => ir a (tr _ _ _ z z2)]; rfl
      · rw [(no a b).mpr fun z2 => ir a (by rw [← z] at z2; exact z2)]; rfl
      · rw [(no b a).mpr fun z2 => ir a (tr _ _ _ z2 z), Bool.or_true]) l
  have h2 : (l.mergeSort fun a b => !decide (lt b a)).Nodup := (List.mergeSort_perm _ _).nodup_iff.mpr nd
  refine (List.pairwise_and_iff.mpr ⟨h1, h2⟩).imp fun {a b} h => ?_
  rcases tri a b with z | z | z
  · exact z
  · exact (h.2 z).elim
  · exact ((no a b).mp h.1 z).elim
theorem sort_same {A : Type} {lt : A → A → Prop} [DecidableRel lt] (ir : ∀ a, ¬ lt a a) (tr : ∀ a b c, lt a b → lt b c → lt a c) (tri : ∀ a b, lt a b ∨ a = b ∨ lt b a) {l m : List A} (nl : l.Nodup) (nm : m.Nodup) (h : ∀ x, x ∈ l ↔ x ∈ m) :
    (l.mergeSort fun a b => !decide (lt b a)) = m.mergeSort fun a b => !decide (lt b a) :=
  rise_eq ir tr (rise_sort ir tr tri nl) (rise_sort ir tr tri nm) fun x => by rw [(List.mergeSort_perm l _).mem_iff, (List.mergeSort_perm m _).mem_iff, h]
theorem pic_tri (a b : List Tx) : a < b ∨ a = b ∨ b < a := by
  by_cases h : a < b
  · exact .inl h
  · by_cases h2 : b < a
    · exact .inr (.inr h2)
    · exact .inr (.inl (List.le_antisymm (List.not_lt.mp h2) (List.not_lt.mp h)))
theorem tup_ext {a b : Tup Tx} (h : a.l = b.l) : a = b := by cases a; cases b; exact congrArg Tup.mk h
theorem rows_same {l m : List (Tup Tx)} (nl : l.Nodup) (nm : m.Nodup) (h : ∀ x, x ∈ l ↔ x ∈ m) : l.mergeSort rowLe = m.mergeSort rowLe :=
  sort_same (lt := fun a b : Tup Tx => a.l < b.l) (fun a => List.lt_irrefl _) (fun _ _ _ h1 h2 => List.lt_trans h1 h2) (fun a b => (pic_tri a.l b.l).imp_right fun h => h.imp_left tup_ext) nl nm h
theorem rows_of {K : PySem.W.Frag} {F : Hp} : ∀ {vs : List V} {ys : List (Tup Tx)}, Paired (fun u x => (repTup : Rep (Tup Tx)).rp K F u x) vs ys → ∃ ks : List TT.Row, vs = ks.map (fun q => V.ref q.1) ∧ ks.map upR = ys ∧ ∀ q ∈ ks, F q.1 = some (.tup (q.2.map V.str))
  | _, _, .nil => ⟨[], rfl, rfl, fun _ h => (List.not_mem_nil h).elim⟩
  | _, _, .cons (b := x) h t => by
    obtain ⟨ks, e1, e2, e3⟩ := rows_of t
    obtain ⟨c, ws, rfl, h2, h3⟩ := h
    obtain rfl := Rps.strs h3
    refine ⟨(c, x.l.map sx) :: ks, by rw [e1]; rfl, ?_, fun q hq => ?_⟩
    · rw [List.map_cons, e2]
      refine congrArg (· :: _) (tup_ext ?_)
      show (x.l.map sx).map tl = x.l
      rw [List.map_map]
      exact List.map_id' _
    · rcases List.mem_cons.mp hq with rfl | hq
      · exact h2
      · exact e3 q hq
theorem rows_rp {K : PySem.W.Frag} {F : Hp} : ∀ {L : List TT.Row}, (∀ q ∈ L, F q.1 = some (.tup (q.2.map V.str))) → Paired (fun u x => (repTup : Rep (Tup Tx)).rp K F u x) (L.map fun q => V.ref q.1) (L.map upR)
  | [], _ => .nil
  | q :: L, h => by
    refine .cons ⟨q.1, _, rfl, h q (.head _), ?_⟩ (rows_rp fun r hr => h r (.tail _ hr))
    have key : ∀ l : List Str, Paired (fun u x => repTx.rp K F u x) (l.map V.str) (l.map tl) := fun l => by
      induction l with
      | nil => exact .nil
      | cons x l ih => exact .cons (by show V.str x = V.str (sx (tl x)); rw [sx_tl]) ih
    exact key q.2
section
variable {X : Cx} {Γ : List Slot} {pos p p2 q : Pos} {e : Expr}
theorem en_sortedSet {k : Nat} {xs : List (Tup Tx)} (ys : List (Tup Tx)) (hr : Room k X.A) (h : EV X Γ e xs) (nd : ys.Nodup) (mem : ∀ y, y ∈ ys ↔ y ∈ xs) (nn : ∀ x ∈ xs, x.l ≠ []) (few : xs.length ≤ 1000) (m1 : X.mg "sorted" = none) (m2 : X.mg "set" = none)
    (hc : autoParam (X.calm = true) aRfl) (g1 : autoParam (Gl X "sorted") aRfl) (g2 : autoParam (Gl X "set") aRfl) (hs : autoParam (starEach [e] X.env = (false, eval e X.env) :: starEach [] X.env) aStar) :
    EN X Γ (.Call (.Name "sorted" p) [.Call (.Name "set" p2) [e] [] q] [] pos) (ys.mergeSort rowLe) := fun B F H σ Q L fin =>
  WE.of (pe_sortedSet hc (by have := hr.un; omega) g1 m1 g2 m2 peW hs) (h B F H σ _ L fun v F1 H1 e1 r1 => by
    obtain ⟨ad, vs, rfl, ha, pr⟩ := r1
    have s1 := (L.step e1).same
    obtain ⟨ks, rfl, e2, e3⟩ := rows_of pr
    have hx : ∀ q ∈ ks, upR q ∈ xs := fun q hq => e2 ▸ List.mem_map.mpr ⟨q, hq, rfl⟩
    refine ⟨ad, ks, rfl, sq_of s1 ha, fun q hq => ⟨st_of s1 (e3 q hq), fun z => nn _ (hx q hq) (by show q.2.map tl = []; rw [z]; rfl)⟩, by have := congrArg List.length e2; rw [List.length_map] at this; omega, fun L2 p sub cov ndL hp => ?_⟩
    have fold : (L2.mergeSort (PySem.W.dataLe false TT.rowD)).map upR = ys.mergeSort rowLe := by
      rw [List.map_mergeSort (s := rowLe) (f := upR) (fun a _ b _ => rowLe_is a b)]
      have inj : ∀ a b : TT.Row, upR a = upR b → a.2 = b.2 := fun a b z => by
        have z : a.2.map tl = b.2.map tl := congrArg Tup.l z
        have z2 := congrArg (List.map sx) z
        rw [List.map_map, List.map_map] at z2
        have id' : ∀ l : List Str, l.map (sx ∘ tl) = l := fun l => by
          induction l with
          | nil => rfl
          | cons x l ih => rw [List.map_cons, ih]; exact congrArg (· :: l) (sx_tl x)
        rwa [id', id'] at z2
      refine rows_same (List.pairwise_map.mpr ((List.pairwise_map.mp ndL).imp fun {a b} ne z => ne (inj a b z))) nd fun y => ?_
      rw [mem, ← e2]
      constructor
      · intro hy
        obtain ⟨q, hq, rfl⟩ := List.mem_map.mp hy
        exact List.mem_map.mpr ⟨q, sub q hq, rfl⟩
      · intro hy
        obtain ⟨q, hq, rfl⟩ := List.mem_map.mp hy
        obtain ⟨r, hr2, e4⟩ := List.mem_map.mp (cov q hq)
        exact List.mem_map.mpr ⟨r, hr2, by show Tup.mk (r.2.map tl) = Tup.mk (q.2.map tl); rw [e4]⟩
    have sub2 : ∀ q ∈ L2.mergeSort (PySem.W.dataLe false TT.rowD), F1 q.1 = some (.tup (q.2.map V.str)) := fun q hq => e3 q (sub q ((List.mergeSort_perm L2 _).mem_iff.mp hq))
    have pf := rows_rp (K := X.K) sub2
    rw [fold] at pf
    exact fin p _ F1 _ (e1.trans (Ext.apart s1 hp)) (e1.hs.free hp) (s1.free hp) upd_same pf)
end
end Tw
namespace Law
open PySem PySem.Spec PyProof.Rows L2 TL Tw
noncomputable def topS (i : Nat) : Stmt := PySem.Challenge.pw_quiltlaw_k07_whole_seen_in.main.body.getD i (.Pass ⟨0, 0, 0, 0⟩)
noncomputable abbrev s_size_of : Stmt := topS 1
noncomputable abbrev N_size_of : List Str := ["picture"]
theorem sc_size_of : FnScope N_size_of ["picture"] (defScope s_size_of) := ⟨rfl, rfl, rfl, by decide +kernel, rfl, by decide +kernel, by decide +kernel⟩
noncomputable abbrev s_windows_of : Stmt := topS 2
noncomputable abbrev N_windows_of : List Str := ["rows", "columns", "found", "top", "left", "bottom", "right"]
theorem sc_windows_of : FnScope N_windows_of ["rows", "columns"] (defScope s_windows_of) := ⟨rfl, rfl, rfl, by decide +kernel, rfl, by decide +kernel, by decide +kernel⟩
noncomputable abbrev s_cut_out : Stmt := topS 3
noncomputable abbrev N_cut_out : List Str := ["picture", "window", "top", "left", "bottom", "right", "row"]
theorem sc_cut_out : FnScope N_cut_out ["picture", "window"] (defScope s_cut_out) := ⟨rfl, rfl, rfl, by decide +kernel, rfl, by decide +kernel, by decide +kernel⟩
noncomputable abbrev bk_cut_out := @L2.blkOk_by N_cut_out (defScope s_cut_out)
noncomputable abbrev s_quarter : Stmt := topS 6
noncomputable abbrev N_quarter : List Str := ["picture", "rows", "column", "row"]
theorem sc_quarter : FnScope N_quarter ["picture"] (defScope s_quarter) := ⟨rfl, rfl, rfl, by decide +kernel, rfl, by decide +kernel, by decide +kernel⟩
noncomputable abbrev bk_quarter := @L2.blkOk_by N_quarter (defScope s_quarter)
noncomputable abbrev s_mirrored : Stmt := topS 7
noncomputable abbrev N_mirrored : List Str := ["picture", "row"]
theorem sc_mirrored : FnScope N_mirrored ["picture"] (defScope s_mirrored) := ⟨rfl, rfl, rfl, by decide +kernel, rfl, by decide +kernel, by decide +kernel⟩
noncomputable abbrev bk_mirrored := @L2.blkOk_by N_mirrored (defScope s_mirrored)
noncomputable abbrev s_turned : Stmt := topS 8
noncomputable abbrev N_turned : List Str := ["picture", "t", "seen", "turn"]
theorem sc_turned : FnScope N_turned ["picture", "t"] (defScope s_turned) := ⟨rfl, rfl, rfl, by decide +kernel, rfl, by decide +kernel, by decide +kernel⟩
noncomputable abbrev s_many_cells : Stmt := topS 9
noncomputable abbrev N_many_cells : List Str := ["picture", "rows", "columns"]
theorem sc_many_cells : FnScope N_many_cells ["picture"] (defScope s_many_cells) := ⟨rfl, rfl, rfl, by decide +kernel, rfl, by decide +kernel, by decide +kernel⟩
noncomputable abbrev s_seen_in : Stmt := topS 10
noncomputable abbrev N_seen_in : List Str := ["picture", "rows", "columns", "found", "window", "part", "t", "seen"]
theorem sc_seen_in : FnScope N_seen_in ["picture"] (defScope s_seen_in) := ⟨rfl, rfl, rfl, by decide +kernel, rfl, by decide +kernel, by decide +kernel⟩
noncomputable abbrev s_law_cell : Stmt := topS 12
noncomputable abbrev N_law_cell : List Str := ["_law_script", "_law_k", "_law_cell_here", "_law_mixed"]
theorem sc_law_cell : FnScope N_law_cell ["_law_script", "_law_k"] (defScope s_law_cell) := ⟨rfl, rfl, rfl, by decide +kernel, rfl, by decide +kernel, by decide +kernel⟩
noncomputable abbrev s_law_signs : Stmt := topS 13
noncomputable abbrev N_law_signs : List Str := ["_law_cell_here", "_law_most", "_law_pool", "_law_rest", "_law_signs_here", "_law_k"]
theorem sc_law_signs : FnScope N_law_signs ["_law_cell_here", "_law_most"] (defScope s_law_signs) := ⟨rfl, rfl, rfl, by decide +kernel, rfl, by decide +kernel, by decide +kernel⟩
noncomputable abbrev s_law_row : Stmt := topS 14
noncomputable abbrev N_law_row : List Str := ["_law_cell_here", "_law_wide", "_law_signs_here", "_law_free", "_law_number", "_law_row_here", "_law_j"]
theorem sc_law_row : FnScope N_law_row ["_law_cell_here", "_law_wide", "_law_signs_here", "_law_free"] (defScope s_law_row) := ⟨rfl, rfl, rfl, by decide +kernel, rfl, by decide +kernel, by decide +kernel⟩
noncomputable abbrev s_law_picture : Stmt := topS 15
noncomputable abbrev N_law_picture : List Str := ["_law_script", "_law_at", "_law_rows", "_law_wide", "_law_signs_here", "_law_free", "_law_k"]
theorem sc_law_picture : FnScope N_law_picture ["_law_script", "_law_at", "_law_rows", "_law_wide", "_law_signs_here"] (defScope s_law_picture) := ⟨rfl, rfl, rfl, by decide +kernel, rfl, by decide +kernel, by decide +kernel⟩
noncomputable abbrev bk_law_picture := @L2.blkOk_by N_law_picture (defScope s_law_picture)
noncomputable abbrev s_law_quarter : Stmt := topS 16
noncomputable abbrev N_law_quarter : List Str := ["_law_rows", "_law_last", "_law_i", "_law_j"]
theorem sc_law_quarter : FnScope N_law_quarter ["_law_rows"] (defScope s_law_quarter) := ⟨rfl, rfl, rfl, by decide +kernel, rfl, by decide +kernel, by decide +kernel⟩
noncomputable abbrev bk_law_quarter := @L2.blkOk_by N_law_quarter (defScope s_law_quarter)
noncomputable abbrev s_law_turned : Stmt := topS 17
noncomputable abbrev N_law_turned : List Str := ["_law_rows", "_law_t", "_law_step", "_law_row_here"]
theorem sc_law_turned : FnScope N_law_turned ["_law_rows", "_law_t"] (defScope s_law_turned) := ⟨rfl, rfl, rfl, by decide +kernel, rfl, by decide +kernel, by decide +kernel⟩
noncomputable abbrev bk_law_turned := @L2.blkOk_by N_law_turned (defScope s_law_turned)
noncomputable abbrev s_law_due : Stmt := topS 18
noncomputable abbrev N_law_due : List Str := ["_law_picture_here", "_law_found", "_law_top", "_law_bottom", "_law_left", "_law_right", "_law_piece", "_law_t", "_law_rising", "_law_row_here", "_law_rows", "_law_many"]
theorem sc_law_due : FnScope N_law_due ["_law_picture_here"] (defScope s_law_due) := ⟨rfl, rfl, rfl, by decide +kernel, rfl, by decide +kernel, by decide +kernel⟩
noncomputable abbrev bk_law_due := @L2.blkOk_by N_law_due (defScope s_law_due)
noncomputable abbrev s_law_good : Stmt := topS 19
noncomputable abbrev N_law_good : List Str := ["_law_found", "_law_due_here", "_law_k", "_law_row_here"]
theorem sc_law_good : FnScope N_law_good ["_law_found", "_law_due_here"] (defScope s_law_good) := ⟨rfl, rfl, rfl, by decide +kernel, rfl, by decide +kernel, by decide +kernel⟩
noncomputable abbrev bk_law_good := @L2.blkOk_by N_law_good (defScope s_law_good)
noncomputable abbrev s_law : Stmt := topS 20
noncomputable abbrev N_law : List Str := ["_law_script", "_law_size", "_law_rows", "_law_wide", "_law_picture_here", "_law_handed", "_law_due_here", "_law_found"]
theorem sc_law : FnScope N_law ["_law_script"] (defScope s_law) := ⟨rfl, rfl, rfl, by decide +kernel, rfl, by decide +kernel, by decide +kernel⟩
structure Txt (K : PySem.W.Frag) (mg : Str → Option Value) : Prop where
  b_all : mg "all" = none
  b_isinstance : mg "isinstance" = none
  b_len : mg "len" = none
  b_list : mg "list" = none
  b_range : mg "range" = none
  b_reversed : mg "reversed" = none
  b_set : mg "set" = none
  b_sorted : mg "sorted" = none
  b_str : mg "str" = none
  b_tuple : mg "tuple" = none
  c_MIRROR : ∃ t, mg "MIRROR" = some (.int 4 t)
  f_size_of : Df K mg "size_of" s_size_of ["picture"]
  f_windows_of : Df K mg "windows_of" s_windows_of ["rows", "columns"]
  f_cut_out : Df K mg "cut_out" s_cut_out ["picture", "window"]
  f_quarter : Df K mg "quarter" s_quarter ["picture"]
  f_mirrored : Df K mg "mirrored" s_mirrored ["picture"]
  f_turned : Df K mg "turned" s_turned ["picture", "t"]
  f_many_cells : Df K mg "many_cells" s_many_cells ["picture"]
  f_seen_in : Df K mg "seen_in" s_seen_in ["picture"]
  f_law_cell : Df K mg "_law_cell" s_law_cell ["_law_script", "_law_k"]
  f_law_signs : Df K mg "_law_signs" s_law_signs ["_law_cell_here", "_law_most"]
  f_law_row : Df K mg "_law_row" s_law_row ["_law_cell_here", "_law_wide", "_law_signs_here", "_law_free"]
  f_law_picture : Df K mg "_law_picture" s_law_picture ["_law_script", "_law_at", "_law_rows", "_law_wide", "_law_signs_here"]
  f_law_quarter : Df K mg "_law_quarter" s_law_quarter ["_law_rows"]
  f_law_turned : Df K mg "_law_turned" s_law_turned ["_law_rows", "_law_t"]
  f_law_due : Df K mg "_law_due" s_law_due ["_law_picture_here"]
  f_law_good : Df K mg "_law_good" s_law_good ["_law_found", "_law_due_here"]
noncomputable def lawCell (s : List Int) (k : Int) : Int :=
  let c := if 0 < s.length then s.getD (k % s.length).toNat 0 else 0
  let m := (c % 2147483647 + 7919 * k + 1) * 48271 % 2147483647
  c / 2147483647 * 2147483647 + (m * 69621 + k) % 2147483647
noncomputable def cellS : Tw.Spec := fun A P _ => ∃ (s : Scr) (k : Int), A = [vl s, vl k] ∧ s.l.length ≤ 63 ∧ 0 ≤ k ∧ P (rv (lawCell s.l k))
theorem getD_ok {signs : Tx} (h : TxOk signs) (n : Nat) : signs.getD n 0 < 1114112 := by
  rw [List.getD_eq_getElem?_getD]
  cases e : signs[n]? with
  | none => decide
  | some x => exact h x (List.mem_of_getElem? e)
section
variable {P : Program} {w : World} {K : PySem.W.Frag} {mg : Str → Option Value} {base : Heap}
theorem mulR {i j : Int} (h1 : autoParam (-(2 ^ 64) < j) Tw.aDec) (h2 : autoParam (j < 2 ^ 64) Tw.aDec) : CMul i j := .inr ⟨h1, h2⟩
theorem mulL {i j : Int} (h1 : autoParam (-(2 ^ 64) < i) Tw.aDec) (h2 : autoParam (i < 2 ^ 64) Tw.aDec) : CMul i j := .inl ⟨h1, h2⟩
theorem divK {i j : Int} (h : autoParam (0 < j) Tw.aDec) (h2 : autoParam (j.natAbs.log2 < 9000) Tw.aDec) : CDivW i j := ⟨h, h2⟩
theorem divS {i j : Int} (h : 0 < j) (h2 : j < 2 ^ 30) : CDivW i j := ⟨h, by
  have : j.natAbs < 2 ^ 30 := by omega
  exact Nat.lt_trans ((Nat.log2_lt (by omega)).mpr this) (by decide)⟩
theorem ok_law_cell (T : Txt K mg) : Has P w K mg base 1 "_law_cell" ["_law_script", "_law_k"] cellS := by
  refine Has.of T.f_law_cell sc_law_cell (fun A Q R ⟨s, k, e, _⟩ => by rw [e]; rfl) fun f cdv A outer s0 H E hr Γ Q R ⟨s, k, e, hl, hk, hq⟩ => ?_
  subst e
  refine st_set 2 ev_int ?_ sc_law_cell.nd
  have go : ∀ c : Int, c = (if 0 < s.l.length then s.l.getD (k % s.l.length).toNat 0 else 0) → Tw.ST (cxOf (L2.CX P w) P w K mg base N_law_cell "_law_cell" (defScope s_law_cell) f cdv A outer s0 H E).nox ((defBody s_law_cell).drop 2) [vl s, vl k, vl c, .no] (fin Q) := by
    intro c ec
    refine st_set 3 (ev_bin (o_mod (by decide)) (ev_bin (o_mul mulR) (ev_bin o_add (ev_bin o_add (ev_bin (o_mod (by decide)) (ev_var 2) ev_int) (ev_bin (o_mul mulL) ev_int (ev_var 1))) ev_int) ev_int) ev_int) ?_ sc_law_cell.nd
    refine st_retV (ev_bin o_add (ev_bin (o_mul mulR) (ev_bin (o_div divK) (ev_var 2) ev_int) ev_int) (ev_bin (o_mod (by decide)) (ev_bin o_add (ev_bin (o_mul mulR) (ev_var 3) ev_int) (ev_var 1)) ev_int)) ?_
    unfold lawCell at hq
    rw [← ec] at hq
    exact hq
  refine st_if (k := decide (0 < s.l.length)) (et_eq (et_cmp o_gt (ev_lenScr T.b_len (ev_var 0)) ev_int) (decide_eq_decide.mpr (by omega))) (fun h => ?_) (fun h => ?_)
  · have h1 := of_decide_eq_true h
    have m1 := Int.emod_nonneg k (by omega : (s.l.length : Int) ≠ 0)
    have m2 := Int.emod_lt_of_pos k (by omega : (0 : Int) < s.l.length)
    have hlt : (k % s.l.length).toNat < s.l.length := by omega
    refine st_set 2 (ev_ixScr (x := s.l.getD (k % s.l.length).toNat 0) (ev_var 0) (ev_bin (o_mod (y := (s.l.length : Int)) (by omega)) (ev_var 1) (ev_lenScr T.b_len (ev_var 0))) ?_) (st_nil (go _ ?_)) sc_law_cell.nd
    · have := atI_nat (xs := s.l) (j := (k % s.l.length).toNat) (List.getElem?_eq_getElem hlt)
      rw [show (((k % s.l.length).toNat : Nat) : Int) = k % s.l.length by omega] at this
      rw [this, List.getD_eq_getElem?_getD, List.getElem?_eq_getElem hlt]; rfl
    · rw [if_pos h1]
  · have h1 := of_decide_eq_false h
    refine st_nil (go _ ?_)
    rw [if_neg h1]
end
local macro_rules | `(tactic| walk_at "le") => `(tactic| repeat (first | exact le_nil | refine le_cons ?_ | refine le_no ?_))
noncomputable abbrev smallTx : Tx := tx "abcdefghijklmnopqrstuvwxyz"
theorem small_lt : ∀ c ∈ smallTx, c < 128 := by decide +kernel
noncomputable def signsOk (x : Tx) : Bool := (decide (1 ≤ x.length) && decide (x.length ≤ 4)) && (decide x.Nodup && x.all fun c => decide (c ∈ smallTx))
theorem signsOk_len {x : Tx} (h : signsOk x = true) : 1 ≤ x.length ∧ x.length ≤ 4 := by
  unfold signsOk at h
  simp only [Bool.and_eq_true, decide_eq_true_eq] at h
  exact h.1
theorem signsOk_in {x : Tx} (h : signsOk x = true) : ∀ c ∈ x, c ∈ smallTx := by
  unfold signsOk at h
  simp only [Bool.and_eq_true, List.all_eq_true, decide_eq_true_eq] at h
  exact h.2.2
noncomputable def signs32S : Tw.Spec := fun A P _ => ∃ (c m : Int), A = [vl c, vl m] ∧ 1 ≤ m ∧ m ≤ 4 ∧ ∀ x : Tx, signsOk x = true → P (rv x)
theorem seqIx {z : Int} {n : Nat} (h0 : 0 ≤ z) (h1 : z < (n : Int)) : seqIndex? z n = some z.toNat := by
  unfold seqIndex?
  simp
  omega
theorem erase_perm {A : Type} {d : A} : ∀ {l : List A} {i : Nat}, l[i]? = some d → (d :: l.eraseIdx i).Perm l
  | x :: l, 0, h => by
    cases (show some x = some d from h)
    exact List.Perm.refl _
  | x :: l, i + 1, h => (List.Perm.swap x d _).trans (List.Perm.cons x (erase_perm (l := l) (i := i) h))
theorem erase_map {A B : Type} {f : A → B} : ∀ {l : List A} {i : Nat}, (l.eraseIdx i).map f = (l.map f).eraseIdx i
  | [], _ => rfl
  | _ :: _, 0 => rfl
  | x :: l, i + 1 => congrArg (f x :: ·) (erase_map (l := l) (i := i))
section
variable {P : Program} {w : World} {K : PySem.W.Frag} {mg : Str → Option Value} {base : Heap}
theorem ok_law_signs (T : Txt K mg) : Has P w K mg base 1 "_law_signs" ["_law_cell_here", "_law_most"] signs32S := by
  refine Has.of (k := 0) T.f_law_signs sc_law_signs (fun A Q R ⟨c, m, e, _⟩ => by rw [e]; rfl) fun f cdv A outer s0 H E hr Γ Q R ⟨c, mo, e, hm1, hm4, hq⟩ => ?_
  subst e
  have a3 := Int.emod_nonneg (c % 4) (by omega : mo ≠ 0)
  have a4 := Int.emod_lt_of_pos (c % 4) (by omega : 0 < mo)
  refine st_setN 2 (xs := smallTx.map fun c => ([c] : Tx)) (en_listS T.b_list (ev_str "abcdefghijklmnopqrstuvwxyz") (sl_small (by decide))) (fun ad => ?_) sc_law_signs.nd
  refine st_set 3 (x := c / 4) (ev_bin (o_div divK) (ev_var 0) ev_int) ?_ sc_law_signs.nd
  refine st_set 4 (x := ([] : Tx)) (ev_str "") ?_ sc_law_signs.nd
  refine st_for (fun m Γ' => ∃ (pool sg : Tx) (rest : Int), Le Γ' [vl c, vl mo, .lst repTx ad (pool.map fun c => ([c] : Tx)), vl rest, vl sg, .no] ∧ sg.length = m ∧ pool.length + m = 26 ∧ (sg ++ pool).Nodup ∧ ∀ x ∈ sg ++ pool, x ∈ smallTx) (src_range (n := 1 + c % 4 % mo) T.b_range (ev_bin o_add ev_int (ev_bin (o_mod (by omega)) (ev_bin (o_mod (by decide)) (ev_var 0) ev_int) (ev_var 1))) (by omega) (by omega)) (tg_name 5) ⟨smallTx, [], c / 4, Le.refl, rfl, by decide, by decide +kernel, fun x hx => hx⟩ (fun m x Γ' hm hP => ?_) (fun Γ' hP => ?_) (pgn 5 sc_law_signs.nd)
  · obtain ⟨pool, sg, rest, le, h1, h2, h3, h4⟩ := hP
    obtain ⟨hmk, rfl⟩ := rng_get0 hm
    have hm4' : m < 4 := by omega
    refine st_le (Le.set le 5 _) ?_
    have z0 := Int.emod_nonneg rest (by omega : (pool.length : Int) ≠ 0)
    have z1 := Int.emod_lt_of_pos rest (by omega : (0 : Int) < pool.length)
    have hpl : (pool.map fun c => ([c] : Tx)).length = pool.length := List.length_map ..
    have ht : (rest % (pool.length : Int)).toNat < pool.length := by omega
    obtain ⟨d, hd⟩ : ∃ d, pool[(rest % (pool.length : Int)).toNat]? = some d := ⟨_, List.getElem?_eq_getElem ht⟩
    have hperm : (d :: pool.eraseIdx (rest % (pool.length : Int)).toNat).Perm pool := erase_perm hd
    have hel : (pool.eraseIdx (rest % (pool.length : Int)).toNat).length + 1 = pool.length := by
      have := hperm.length_eq
      rw [List.length_cons] at this
      omega
    have hpe : ((sg ++ [d]) ++ pool.eraseIdx (rest % (pool.length : Int)).toNat).Perm (sg ++ pool) := by
      rw [List.append_assoc]
      exact List.Perm.append_left sg hperm
    refine st_setGE 4 (i := repTx) (eg_binR (x := sg) (g := fun y => sg ++ y) (N := fun y Γ' => y = ([d] : Tx) ∧ Γ' = [vl c, vl mo, .lst repTx ad ((pool.map fun c => ([c] : Tx)).eraseIdx (rest % (pool.length : Int)).toNat), vl rest, vl sg, vl (m : Int)]) (fun y Γ' h => o_addS (by rw [h.1]; exact sl_small (by rw [h1]; show m + 1 ≤ 1000; omega))) (ev_var 4) (eg_imp (eg_popAt 2 (xs := pool.map fun c => ([c] : Tx)) (x := ([d] : Tx)) (t := (rest % (pool.length : Int)).toNat) (ev_bin (o_mod (y := (pool.length : Int)) (by omega)) (ev_var 3) (ev_eq (ev_lend 2 (ev_len T.b_len (ev_var 2))) (by rw [hpl]))) (by omega) (by omega) (by rw [hpl]; exact seqIx z0 z1) (by rw [List.getElem?_map, hd]; rfl)) (fun r Γ' ⟨e1, e2⟩ => ⟨[d], ⟨rfl, e2⟩, e1⟩))) (fun z Γ' hz => ?_) sc_law_signs.nd
    obtain ⟨y, ⟨rfl, rfl⟩, rfl⟩ := hz
    refine st_set 3 (x := rest / (pool.length : Int)) (ev_bin (o_div (y := (pool.length : Int)) (divS (by omega) (by omega))) (ev_var 3) (ev_eq (ev_bin o_add (ev_lend 2 (ev_len T.b_len (ev_var (x := (pool.map fun c => ([c] : Tx)).eraseIdx (rest % (pool.length : Int)).toNat) 2))) ev_int) (by rw [List.length_eraseIdx, if_pos (by rw [hpl]; exact ht), hpl]; omega))) (st_nil ?_) sc_law_signs.nd
    refine ⟨pool.eraseIdx (rest % (pool.length : Int)).toNat, sg ++ [d], rest / (pool.length : Int), ?_, by rw [List.length_append, h1]; rfl, by omega, hpe.nodup_iff.mpr h3, fun x hx => h4 x (hpe.mem_iff.mp hx)⟩
    rw [erase_map]
    exact le_cons (le_cons (le_cons (le_cons (le_cons (le_no le_nil)))))
  · obtain ⟨pool, sg, rest, le, h1, h2, h3, h4⟩ := hP
    refine st_le le (st_retV (ev_var 4) (hq _ ?_))
    rw [rng_len] at h1
    unfold signsOk
    rw [decide_eq_true (by omega : 1 ≤ sg.length), decide_eq_true (by omega : sg.length ≤ 4), decide_eq_true (List.nodup_append.mp h3).1, List.all_eq_true.mpr fun x hx => decide_eq_true (h4 x (List.mem_append_left _ hx))]
    rfl
end
noncomputable abbrev Pic := List Tx
structure Pk (p : Pic) (r c : Nat) : Prop where
  len : p.length = r
  row : ∀ x ∈ p, x.length = c
  r0 : 0 < r
  c0 : 0 < c
  r6 : r ≤ 6
  c6 : c ≤ 6
theorem Pk.hd {p : Pic} {r c : Nat} (h : Pk p r c) : ∃ x q, p = x :: q ∧ x.length = c := by
  cases p with
  | nil => have := h.len; have := h.r0; simp at *; omega
  | cons x q => exact ⟨x, q, rfl, h.row x (List.mem_cons_self ..)⟩
theorem Pk.head {p : Pic} {r c : Nat} (h : Pk p r c) : atI p 0 = some (p.headD []) ∧ (p.headD []).length = c := by
  obtain ⟨x, q, rfl, e⟩ := h.hd
  exact ⟨atI_nat (j := 0) rfl, e⟩
noncomputable def quarter (p : Pic) : Pic := (List.range (p.headD []).length).map fun j => p.reverse.map fun row => row.getD j 0
noncomputable def mirrored (p : Pic) : Pic := p.map List.reverse
noncomputable def quarters : Nat → Pic → Pic
  | 0, p => p
  | n + 1, p => quarter (quarters n p)
noncomputable def turned (p : Pic) (t : Nat) : Pic := quarters (t % 4) (if 4 ≤ t then mirrored p else p)
theorem Pk.quarter {p : Pic} {r c : Nat} (h : Pk p r c) : Pk (quarter p) c r := by
  have hl := h.head.2
  refine ⟨by unfold Law.quarter; rw [List.length_map, List.length_range, hl], fun x hx => ?_, h.c0, h.r0, h.c6, h.r6⟩
  unfold Law.quarter at hx
  obtain ⟨j, _, rfl⟩ := List.mem_map.mp hx
  rw [List.length_map, List.length_reverse, h.len]
theorem Pk.mirrored {p : Pic} {r c : Nat} (h : Pk p r c) : Pk (mirrored p) r c := by
  refine ⟨by unfold Law.mirrored; rw [List.length_map, h.len], fun x hx => ?_, h.r0, h.c0, h.r6, h.c6⟩
  unfold Law.mirrored at hx
  obtain ⟨y, hy, rfl⟩ := List.mem_map.mp hx
  rw [List.length_reverse, h.row y hy]
theorem Pk.quarters {p : Pic} {r c : Nat} (h : Pk p r c) : ∀ n, Pk (quarters n p) (if n % 2 = 0 then r else c) (if n % 2 = 0 then c else r)
  | 0 => h
  | n + 1 => by
    have ih := (Pk.quarters h n).quarter
    by_cases e : n % 2 = 0
    · rw [if_pos e, if_pos e] at ih
      rw [if_neg (by omega), if_neg (by omega)]
      exact ih
    · rw [if_neg e, if_neg e] at ih
      rw [if_pos (by omega), if_pos (by omega)]
      exact ih
theorem Pk.turned {p : Pic} {r c : Nat} (h : Pk p r c) (t : Nat) : Pk (turned p t) (if t % 2 = 0 then r else c) (if t % 2 = 0 then c else r) := by
  unfold Law.turned
  have e : (t % 4) % 2 = t % 2 := by omega
  split
  · have := h.mirrored.quarters (t % 4)
    rwa [e] at this
  · have := h.quarters (t % 4)
    rwa [e] at this
noncomputable def quarterS : Tw.Spec := fun A P _ => ∃ (p : Pic) (r c : Nat), A = [vl p] ∧ Pk p r c ∧ P (rn (quarter p))
noncomputable def mirroredS : Tw.Spec := fun A P _ => ∃ (p : Pic) (r c : Nat), A = [vl p] ∧ Pk p r c ∧ P (rn (mirrored p))
noncomputable def turnedS : Tw.Spec := fun A P _ => ∃ (p : Pic) (r c : Nat) (t : Int), A = [vl p, vl t] ∧ Pk p r c ∧ 0 ≤ t ∧ P (rn (turned p t.toNat))
theorem sl6 {n : Nat} (h : n ≤ 6) : n ≤ sizeLine := Nat.le_trans h (by decide)
noncomputable def PicOk (p : Pic) : Prop := ∀ x ∈ p, TxOk x
section
variable {P : Program} {w : World} {K : PySem.W.Frag} {mg : Str → Option Value} {base : Heap}
theorem ok_quarter (T : Txt K mg) : Has P w K mg base 1 "quarter" ["picture"] quarterS := by
  refine Has.of T.f_quarter sc_quarter (fun A Q R ⟨p, r, c, e, _⟩ => by rw [e]; rfl) fun f cdv A outer s H E hr Γ Q R ⟨p, r, c, e, hp, hq⟩ => ?_
  subst e
  obtain ⟨h0, h1⟩ := hp.head
  have hc6 := hp.c6
  have hr6 := hp.r6
  -- rows = []
  refine st_setN 1 (en_nil Tx) (fun ad => ?_) sc_quarter.nd
  -- for column in range(len(picture[0])):
  refine st_for (xs := rng 0 ((p.headD []).length : Int).toNat) (fun k Γ => Le Γ [vl p, ls ad ((quarter p).take k), .no, .no]) (src_range T.b_range (ev_lenS T.b_len (ev_ixL (ev_var 0) ev_int h0) (sl6 (by rw [h1]; exact hp.c6))) (by omega) (by rw [h1]; omega)) (tg_name 2) Le.refl
    (fun k x Γ' hk hP => ?_) (fun Γ' hP => ?_) (pgn 2 sc_quarter.nd)
  · obtain ⟨hlt, rfl⟩ := rng_get0 hk
    refine st_le (Le.set hP 2 _) ?_
    have hkc : k < (p.headD []).length := by simpa using hlt
    have hk6 : k < 6 := by omega
    refine st_append 1 (ev_join (ev_str "") (ev_of_en (en_lc (α := Tx) (β := Tx) (own := [("row", 3)]) (f := fun row => [row.getD k 0]) (src_rev T.b_reversed (ev_var 0)) (tg_name 3) (fun _ _ _ _ _ => pgn 3 sc_quarter.nd)
      (fun x hx _ _ _ _ _ => ev_ixS (ev_var 3) (ev_var 2) ?_ ?_) sc_quarter.nd (ok := bk_quarter (by decide +kernel)) (hz := ?_))) ?_) (st_nil ?_) ?_
    · have := hp.row x (by simpa using hx)
      rw [List.getD_eq_getElem?_getD, List.getElem?_eq_getElem (by omega)]
      exact atI_nat (List.getElem?_eq_getElem (by omega))
    · rw [hp.row x (by simpa using hx)]; exact sl6 hp.c6
    · rw [List.length_reverse, hp.len]; exact sl6 hp.r6
    · show _ + _ * 0 ≤ _
      rw [sum_ones, List.length_reverse, hp.len]
      omega
    · have e1 : (quarter p)[k]? = some (p.reverse.map fun row => row.getD k 0) := by
        unfold quarter
        rw [List.getElem?_map, List.getElem?_range hkc]; rfl
      show Le _ _
      rw [take_snoc e1, ← joinOnes]
      exact le_cons (le_cons (le_no (le_no le_nil)))
    · rw [List.length_take]
      exact lt_line (by omega)
  · refine st_le hP (st_retL 1 ?_)
    rw [rng_len, List.take_of_length_le (by unfold quarter; rw [List.length_map, List.length_range]; omega)]
    exact hq
theorem ok_mirrored (T : Txt K mg) : Has P w K mg base 1 "mirrored" ["picture"] mirroredS := by
  refine Has.of T.f_mirrored sc_mirrored (fun A Q R ⟨p, r, c, e, _⟩ => by rw [e]; rfl) fun f cdv A outer s H E hr Γ Q R ⟨p, r, c, e, hp, hq⟩ => ?_
  subst e
  have hc6 := hp.c6
  have hr6 := hp.r6
  refine st_retE (en_lc (α := Tx) (β := Tx) (own := [("row", 1)]) (f := List.reverse) (src_list (ev_var 0)) (tg_name 1) (fun _ _ _ _ _ => pgn 1 sc_mirrored.nd)
    (fun x hx _ _ _ _ _ => ev_joinRev T.b_reversed (ev_str "") (ev_var 1) ?_) sc_mirrored.nd (ok := bk_mirrored (by decide +kernel)) (hz := ?_)) hq
  · rw [hp.row x hx]; omega
  · rw [hp.len]; exact sl6 hr6
theorem ok_turned (T : Txt K mg) : Has P w K mg base 2 "turned" ["picture", "t"] turnedS := by
  refine Has.of T.f_turned sc_turned (fun A Q R ⟨p, r, c, t, e, _⟩ => by rw [e]; rfl) fun f cdv A outer s H E hr Γ Q R ⟨p, r, c, t, e, hp, ht, hq⟩ => ?_
  subst e
  have hc6 := hp.c6
  have hr6 := hp.r6
  -- seen = list(picture)
  refine st_setN 2 (en_list T.b_list (ev_var 0)) (fun a0 => ?_) sc_turned.nd
  -- if t >= MIRROR:
  have go : ∀ (q : Pic) (a1 : Addr), q = (if 4 ≤ t.toNat then mirrored p else p) → Tw.ST (cxOf (L2.CX P w) P w K mg base N_turned "turned" (defScope s_turned) f cdv A outer s H E).nox ((defBody s_turned).drop 2) [vl p, vl t, ls a1 q, .no] (fin Q) := by
    intro q a1 eq
    obtain ⟨r', c', hq'⟩ : ∃ r' c', Pk q r' c' := by
      rw [eq]; split
      · exact ⟨_, _, hp.mirrored⟩
      · exact ⟨_, _, hp⟩
    -- for turn in range(t % MIRROR):
    refine st_for (xs := rng 0 (t % 4).toNat) (fun k Γ => ∃ ad, Le Γ [vl p, vl t, ls ad (quarters k q), .no]) (src_range T.b_range (ev_bin (o_mod (by decide)) (ev_var 1) (ev_gintE T.c_MIRROR)) (by omega) (by omega)) (tg_name 3) ⟨a1, Le.refl⟩
      (fun k x Γ' hk hP => ?_) (fun Γ' hP => ?_) (pgn 3 sc_turned.nd)
    · obtain ⟨ad, hP⟩ := hP
      refine st_le (Le.set hP 3 _) ?_
      refine st_setN 2 (en_lend 2 (en_call (ok_quarter T) (hr.mono (by decide)) (ea_cons (ev_var 2) ea_nil) fun P R h => ⟨_, _, _, rfl, hq'.quarters k, h⟩)) (fun a2 => st_nil ⟨a2, ?_⟩) sc_turned.nd
      exact le_cons (le_cons (le_cons (le_no le_nil)))
    · obtain ⟨ad, hP⟩ := hP
      refine st_le hP (st_retL 2 ?_)
      rw [rng_len]
      unfold turned at hq
      rw [← eq, show t.toNat % 4 = (t % 4).toNat by omega] at hq
      exact hq
  refine st_if (et_cmp o_ge (ev_var 1) (ev_gintE T.c_MIRROR)) (fun h => ?_) (fun h => ?_)
  · refine st_setN 2 (en_lend 2 (en_call (ok_mirrored T) (hr.mono (by decide)) (ea_cons (ev_var 2) ea_nil) fun P R h => ⟨_, _, _, rfl, hp, h⟩)) (fun a1 => st_nil ?_) sc_turned.nd
    refine go _ _ ?_
    rw [if_pos (by have := of_decide_eq_true h; omega)]
  · refine st_nil (go _ _ ?_)
    rw [if_neg (by have := of_decide_eq_false h; omega)]
end
local macro_rules | `(tactic| walk_at "le") => `(tactic| repeat (first | exact le_nil | refine le_cons ?_ | refine le_no ?_))
noncomputable abbrev Win := Tup Int
noncomputable def win (t l b r : Nat) : Win := ⟨[(t : Int), (l : Int), (b : Int), (r : Int)]⟩
noncomputable def winR (c t l b : Nat) : List Win := (List.range (c - l)).map fun k => win t l b (l + 1 + k)
noncomputable def winB (r c t l : Nat) : List Win := (List.range (r - t)).flatMap fun k => winR c t l (t + 1 + k)
noncomputable def winL (r c t : Nat) : List Win := (List.range c).flatMap fun l => winB r c t l
noncomputable def windows (r c : Nat) : List Win := (List.range r).flatMap fun t => winL r c t
theorem range_flat {A : Type} {k : Nat} (f : Nat → List A) : (List.range (k + 1)).flatMap f = (List.range k).flatMap f ++ f k := by
  rw [List.range_succ, List.flatMap_append]
  simp
noncomputable def WinIn (r c : Nat) (x : Win) : Prop := ∃ t l b q : Nat, x = win t l b q ∧ t < b ∧ b ≤ r ∧ l < q ∧ q ≤ c
theorem mem_windows {r c : Nat} {x : Win} (h : x ∈ windows r c) : WinIn r c x := by
  unfold windows winL winB winR at h
  obtain ⟨t, ht, h⟩ := List.mem_flatMap.mp h
  obtain ⟨l, hl, h⟩ := List.mem_flatMap.mp h
  obtain ⟨k, hk, h⟩ := List.mem_flatMap.mp h
  obtain ⟨m, hm, rfl⟩ := List.mem_map.mp h
  have := List.mem_range.mp ht
  have := List.mem_range.mp hl
  have := List.mem_range.mp hk
  have := List.mem_range.mp hm
  exact ⟨t, l, t + 1 + k, l + 1 + m, rfl, by omega, by omega, by omega, by omega⟩
noncomputable def cutOut (p : Pic) (t l b q : Nat) : Pic := ((p.drop t).take (b - t)).map fun row => (row.drop l).take (q - l)
theorem cutL_nat {A : Type} {xs : List A} {a b : Nat} (hb : b ≤ xs.length) (hab : a ≤ b) : cutL xs (some (a : Int)) (some (b : Int)) = (xs.drop a).take (b - a) := by
  unfold cutL
  rw [HT.sIx_nat, HT.sIx_nat, Nat.min_eq_left hb, Nat.min_eq_left (by omega)]
theorem Pk.cut {p : Pic} {r c : Nat} (h : Pk p r c) {t l b q : Nat} (h1 : t < b) (h2 : b ≤ r) (h3 : l < q) (h4 : q ≤ c) : Pk (cutOut p t l b q) (b - t) (q - l) := by
  have hr := h.r6
  have hc := h.c6
  refine ⟨by unfold cutOut; rw [List.length_map, List.length_take, List.length_drop, h.len]; omega, fun x hx => ?_, by omega, by omega, by omega, by omega⟩
  obtain ⟨row, hrow, rfl⟩ := List.mem_map.mp hx
  rw [List.length_take, List.length_drop, h.row row (List.mem_of_mem_drop (List.mem_of_mem_take hrow))]
  omega
theorem PicOk.cut {p : Pic} (h : PicOk p) (t l b q : Nat) : PicOk (cutOut p t l b q) := fun x hx => by
  obtain ⟨row, hrow, rfl⟩ := List.mem_map.mp hx
  exact fun c hc => h row (List.mem_of_mem_drop (List.mem_of_mem_take hrow)) c (List.mem_of_mem_drop (List.mem_of_mem_take hc))
noncomputable def sizeS : Tw.Spec := fun A P _ => ∃ (p : Pic) (r c : Nat), A = [vl p] ∧ Pk p r c ∧ P (rv (Tup.mk [(r : Int), (c : Int)]))
noncomputable def windowsS : Tw.Spec := fun A P _ => ∃ (r c : Nat), A = [vl (r : Int), vl (c : Int)] ∧ r ≤ 6 ∧ c ≤ 6 ∧ P (rn (windows r c))
noncomputable def cutS' : Tw.Spec := fun A P _ => ∃ (p : Pic) (r c t l b q : Nat), A = [vl p, vl (win t l b q)] ∧ Pk p r c ∧ t < b ∧ b ≤ r ∧ l < q ∧ q ≤ c ∧ P (rn (cutOut p t l b q))
theorem flat_len {A B : Type} (xs : List A) (f : A → List B) (n : Nat) (h : ∀ x ∈ xs, (f x).length ≤ n) : (xs.flatMap f).length ≤ xs.length * n := by
  induction xs with
  | nil => simp
  | cons x xs ih =>
    rw [List.flatMap_cons, List.length_append, List.length_cons, Nat.succ_mul]
    have h1 := h x (List.mem_cons_self ..)
    have h2 := ih fun y hy => h y (List.mem_cons_of_mem _ hy)
    omega
theorem wr_len {c t l b : Nat} (hc : c ≤ 6) : (winR c t l b).length ≤ 6 := by unfold winR; simp; omega
theorem wb_len {r c t l : Nat} (k : Nat) (hk : k ≤ 6) (hc : c ≤ 6) : ((List.range k).flatMap fun k => winR c t l (t + 1 + k)).length ≤ 36 := by
  have := flat_len (List.range k) (fun k => winR c t l (t + 1 + k)) 6 fun x _ => wr_len hc
  rw [List.length_range] at this; omega
theorem wl_len {r c t : Nat} (k : Nat) (hk : k ≤ 6) (hr : r ≤ 6) (hc : c ≤ 6) : ((List.range k).flatMap fun l => winB r c t l).length ≤ 216 := by
  have := flat_len (List.range k) (fun l => winB r c t l) 36 fun x _ => wb_len (r := r) (r - t) (by omega) hc
  rw [List.length_range] at this; omega
theorem wn_len {r c : Nat} (k : Nat) (hk : k ≤ 6) (hr : r ≤ 6) (hc : c ≤ 6) : ((List.range k).flatMap fun t => winL r c t).length ≤ 1296 := by
  have := flat_len (List.range k) (fun t => winL r c t) 216 fun x _ => wl_len (r := r) c hc hr hc
  rw [List.length_range] at this; omega
section
variable {P : Program} {w : World} {K : PySem.W.Frag} {mg : Str → Option Value} {base : Heap}
theorem ok_size_of (T : Txt K mg) : Has P w K mg base 1 "size_of" ["picture"] sizeS := by
  refine Has.of T.f_size_of sc_size_of (fun A Q R ⟨p, r, c, e, _⟩ => by rw [e]; rfl) fun f cdv A outer s0 H E hr Γ Q R ⟨p, r, c, e, hp, hq⟩ => ?_
  subst e
  obtain ⟨h0, h1⟩ := hp.head
  have hc6 := hp.c6
  exact st_retV (ev_tupH (es_cons (ev_eq (y := (r : Int)) (ev_len T.b_len (ev_var 0)) (by rw [hp.len])) (es_cons (ev_eq (y := (c : Int)) (ev_lenS T.b_len (ev_ixL (ev_var 0) ev_int h0) (sl6 (by omega))) (by rw [h1])) es_nil))) hq
theorem ok_windows_of (T : Txt K mg) : Has P w K mg base 1 "windows_of" ["rows", "columns"] windowsS := by
  refine Has.of T.f_windows_of sc_windows_of (fun A Q R ⟨r, c, e, _⟩ => by rw [e]; rfl) fun f cdv A outer s0 H E hr Γ Q R ⟨r, c, e, hr6, hc6, hq⟩ => ?_
  subst e
  refine st_setN 2 (en_nil Win) (fun ad => ?_) sc_windows_of.nd
  refine st_for (xs := rng 0 (r : Int).toNat) (fun k Γ => Le Γ [vl (r : Int), vl (c : Int), ls ad ((List.range k).flatMap fun t => winL r c t), .no, .no, .no, .no]) (src_range T.b_range (ev_var 0) (by omega) (by omega)) (tg_name 3) (by walk_at "le")
    (fun t x Γ1 hk1 hP1 => ?_) (fun Γ1 hP1 => ?_) (pgn 3 sc_windows_of.nd)
  rotate_left
  · refine st_le hP1 (st_retL 2 ?_)
    rw [rng_len]
    exact hq
  obtain ⟨ht, rfl⟩ := rng_get0 hk1
  have ht' : t < r := by omega
  refine st_le (Le.set hP1 3 _) ?_
  have n1 := wn_len (r := r) (c := c) t (by omega) hr6 hc6
  generalize hf1 : ((List.range t).flatMap fun t => winL r c t) = f1 at n1
  refine st_for (xs := rng 0 (c : Int).toNat) (fun k Γ => Le Γ [vl (r : Int), vl (c : Int), ls ad (f1 ++ (List.range k).flatMap fun l => winB r c t l), vl (t : Int), .no, .no, .no]) (src_range T.b_range (ev_var 1) (by omega) (by omega)) (tg_name 4) (by
      show Le _ [vl (r : Int), vl (c : Int), ls ad (f1 ++ []), vl (t : Int), .no, .no, .no]
      rw [List.append_nil]; walk_at "le")
    (fun l x Γ2 hk2 hP2 => ?_) (fun Γ2 hP2 => st_nil ?_) (pgn 4 sc_windows_of.nd)
  rotate_left
  · rw [rng_len] at hP2
    refine hP2.trans ?_
    show Le _ [vl (r : Int), vl (c : Int), ls ad ((List.range (t + 1)).flatMap fun t => winL r c t), .no, .no, .no, .no]
    rw [range_flat, hf1]
    unfold winL
    walk_at "le"
  obtain ⟨hl, rfl⟩ := rng_get0 hk2
  have hl' : l < c := by omega
  refine st_le (Le.set hP2 4 _) ?_
  have n2 := wl_len (r := r) (c := c) (t := t) l (by omega) hr6 hc6
  generalize hf2 : ((List.range l).flatMap fun l => winB r c t l) = f2 at n2
  refine st_for (xs := rng ((t : Int) + 1) ((r : Int) + 1 - ((t : Int) + 1)).toNat) (fun k Γ => Le Γ [vl (r : Int), vl (c : Int), ls ad (f1 ++ (f2 ++ (List.range k).flatMap fun k => winR c t l (t + 1 + k))), vl (t : Int), vl (l : Int), .no, .no]) (src_range2 T.b_range (ev_bin o_add (ev_var 3) ev_int) (ev_bin o_add (ev_var 0) ev_int) (by omega)) (tg_name 5) (by
      show Le _ [vl (r : Int), vl (c : Int), ls ad (f1 ++ (f2 ++ [])), vl (t : Int), vl (l : Int), .no, .no]
      rw [List.append_nil]; walk_at "le")
    (fun b x Γ3 hk3 hP3 => ?_) (fun Γ3 hP3 => st_nil ?_) (pgn 5 sc_windows_of.nd)
  rotate_left
  · rw [rng_len] at hP3
    refine hP3.trans ?_
    show Le _ [vl (r : Int), vl (c : Int), ls ad (f1 ++ ((List.range (l + 1)).flatMap fun l => winB r c t l)), vl (t : Int), .no, .no, .no]
    rw [range_flat, hf2]
    unfold winB
    rw [show ((r : Int) + 1 - ((t : Int) + 1)).toNat = r - t by omega]
    walk_at "le"
  obtain ⟨hb, rfl⟩ := rng_get hk3
  refine st_le (Le.set hP3 5 _) ?_
  have n3 := wb_len (r := r) (c := c) (t := t) (l := l) b (by omega) hc6
  generalize hf3 : ((List.range b).flatMap fun k => winR c t l (t + 1 + k)) = f3 at n3
  refine st_for (xs := rng ((l : Int) + 1) ((c : Int) + 1 - ((l : Int) + 1)).toNat) (fun k Γ => Le Γ [vl (r : Int), vl (c : Int), ls ad (f1 ++ (f2 ++ (f3 ++ (List.range k).map fun k => win t l (t + 1 + b) (l + 1 + k)))), vl (t : Int), vl (l : Int), vl ((t : Int) + 1 + (b : Int)), .no]) (src_range2 T.b_range (ev_bin o_add (ev_var 4) ev_int) (ev_bin o_add (ev_var 1) ev_int) (by omega)) (tg_name 6) (by
      show Le _ [vl (r : Int), vl (c : Int), ls ad (f1 ++ (f2 ++ (f3 ++ []))), vl (t : Int), vl (l : Int), vl ((t : Int) + 1 + (b : Int)), .no]
      rw [List.append_nil]; walk_at "le")
    (fun q x Γ4 hk4 hP4 => ?_) (fun Γ4 hP4 => st_nil ?_) (pgn 6 sc_windows_of.nd)
  rotate_left
  · rw [rng_len] at hP4
    refine hP4.trans ?_
    show Le _ [vl (r : Int), vl (c : Int), ls ad (f1 ++ (f2 ++ ((List.range (b + 1)).flatMap fun k => winR c t l (t + 1 + k)))), vl (t : Int), vl (l : Int), .no, .no]
    rw [range_flat, hf3]
    unfold winR
    rw [show ((c : Int) + 1 - ((l : Int) + 1)).toNat = c - l by omega]
    walk_at "le"
  obtain ⟨hq', rfl⟩ := rng_get hk4
  refine st_le (Le.set hP4 6 _) ?_
  refine st_append 2 (ev_tupH (es_cons (ev_var 3) (es_cons (ev_var 4) (es_cons (ev_var 5) (es_cons (ev_var 6) es_nil))))) (st_nil ?_) ?_
  · show Le _ [vl (r : Int), vl (c : Int), ls ad (f1 ++ (f2 ++ (f3 ++ (List.range (q + 1)).map fun k => win t l (t + 1 + b) (l + 1 + k)))), vl (t : Int), vl (l : Int), vl ((t : Int) + 1 + (b : Int)), .no]
    have ew : win t l (t + 1 + b) (l + 1 + q) = (⟨[(t : Int), (l : Int), (t : Int) + 1 + (b : Int), (l : Int) + 1 + (q : Int)]⟩ : Win) := by
      unfold win
      congr 1
    rw [List.range_succ, List.map_append, List.map_singleton, ew]
    simp only [← List.append_assoc]
    walk_at "le"
  · refine Nat.lt_of_le_of_lt ?_ (show 2000 < sizeLine by decide)
    simp only [List.length_append, List.length_map, List.length_range]
    omega
theorem ok_cut_out (T : Txt K mg) : Has P w K mg base 1 "cut_out" ["picture", "window"] cutS' := by
  refine Has.of T.f_cut_out sc_cut_out (fun A Q R ⟨p, r, c, t, l, b, q, e, _⟩ => by rw [e]; rfl) fun f cdv A outer s0 H E hr Γ Q R ⟨p, r, c, t, l, b, q, e, hp, h1, h2, h3, h4, hq⟩ => ?_
  subst e
  have hc6 := hp.c6
  have hr6 := hp.r6
  refine st_unpack4 2 3 4 5 (ev_var 1) ?_ (pg4 2 3 4 5 sc_cut_out.nd rfl (pgn 2 sc_cut_out.nd) (pgn 3 sc_cut_out.nd) (pgn 4 sc_cut_out.nd) (pgn 5 sc_cut_out.nd))
  have e1 : cutL p (some (t : Int)) (some (b : Int)) = (p.drop t).take (b - t) := cutL_nat (by rw [hp.len]; exact h2) (by omega)
  refine st_retE (en_lc (α := Tx) (β := Tx) (own := [("row", 6)]) (xs := (p.drop t).take (b - t)) (f := fun row => (row.drop l).take (q - l)) (src_list (ev_of_en (en_eq (en_sliceL (o1 := some (t : Int)) (o2 := some (b : Int)) (ev_var 0) (ev_var 2) (ev_var 4)) e1))) (tg_name 6) (fun _ _ _ _ _ => pgn 6 sc_cut_out.nd)
    (fun x hx _ _ _ _ _ => ev_eq (ev_sliceS (o1 := some (l : Int)) (o2 := some (q : Int)) (ev_var 6) (ev_var 3) (ev_var 5) ?_) (cutL_nat ?_ (by omega))) sc_cut_out.nd (ok := bk_cut_out (by decide +kernel)) (hz := ?_)) hq
  · rw [hp.row x (List.mem_of_mem_drop (List.mem_of_mem_take hx))]; exact sl6 hc6
  · rw [hp.row x (List.mem_of_mem_drop (List.mem_of_mem_take hx))]; exact h4
  · rw [List.length_take, List.length_drop, hp.len]; exact sl6 (by omega)
end
theorem ev_tp {X : Cx} {Γ : List Slot} {e : Expr} {α : Type} {i : Rep α} {x y : α} (h : EV X Γ e (Tup.mk [x, y])) : EV X Γ e (x, y) := ev_conv h fun K F v r => by
  obtain ⟨a, vs, rfl, h1, pr⟩ := r
  cases pr with
  | cons r1 t =>
    cases t with
    | cons r2 t => cases t; exact ⟨a, _, _, rfl, h1, r1, r2⟩
noncomputable def cellsOf (p : Pic) : Int := (p.length : Int) * ((p.headD []).length : Int)
theorem Pk.cells {p : Pic} {r c : Nat} (h : Pk p r c) : cellsOf p = (r : Int) * (c : Int) := by
  unfold cellsOf
  rw [h.len, h.head.2]
noncomputable def winPic (p : Pic) (x : Win) : Pic := cutOut p (x.l.getD 0 0).toNat (x.l.getD 1 0).toNat (x.l.getD 2 0).toNat (x.l.getD 3 0).toNat
theorem winPic_win (p : Pic) (t l b q : Nat) : winPic p (win t l b q) = cutOut p t l b q := rfl
noncomputable def turns8 (q : Pic) : List Pic := (List.range 8).map fun t => turned q t
noncomputable def seenAll (p : Pic) (r c : Nat) : List Pic := (windows r c).flatMap fun x => turns8 (winPic p x)
noncomputable abbrev kput (F : List (Tup Tx × Pic)) (s : Pic) : List (Tup Tx × Pic) := put F ⟨s⟩ s
noncomputable def keyed (l : List Pic) : List (Tup Tx × Pic) := l.foldl kput []
theorem keyed_snoc (l : List Pic) (s : Pic) : keyed (l ++ [s]) = put (keyed l) ⟨s⟩ s := by unfold keyed; rw [List.foldl_append]; rfl
theorem keyed_len (l : List Pic) : (keyed l).length ≤ l.length := by
  have go : ∀ (l : List Pic) (F : List (Tup Tx × Pic)), (l.foldl kput F).length ≤ F.length + l.length := fun l => by
    induction l with
    | nil => intro F; simp
    | cons s l ih =>
      intro F
      have h1 := ih (kput F s)
      have h2 : (kput F s).length ≤ F.length + 1 := put_len F (⟨s⟩ : Tup Tx) s
      rw [List.foldl_cons, List.length_cons]
      omega
  have := go l []
  rw [List.length_nil, Nat.zero_add] at this
  exact this
structure KeyedOk (l : List Pic) (F : List (Tup Tx × Pic)) : Prop where
  nd : (F.map (·.1)).Nodup
  key : ∀ x ∈ F, x.1.l = x.2
  mem : ∀ s : Pic, s ∈ F.map (·.2) ↔ s ∈ l
theorem put_mem {κ α : Type} [DecidableEq κ] {l : List (κ × α)} {k : κ} {v : α} {x : κ × α} (h : x ∈ put l k v) : x = (k, v) ∨ x ∈ l := by
  unfold put at h
  split at h
  · obtain ⟨y, hy, e⟩ := List.mem_map.mp h
    by_cases hk : y.1 = k
    · rw [if_pos hk] at e
      exact .inl (by rw [← e, hk])
    · rw [if_neg hk] at e
      exact .inr (e ▸ hy)
  · rcases List.mem_append.mp h with h | h
    · exact .inr h
    · exact .inl (List.mem_singleton.mp h)
theorem keyed_ok (l : List Pic) : KeyedOk l (keyed l) := by
  have go : ∀ (l m : List Pic) (F : List (Tup Tx × Pic)), KeyedOk m F → KeyedOk (m ++ l) (l.foldl kput F) := fun l => by
    induction l with
    | nil => intro m F h; rw [List.append_nil]; exact h
    | cons s l ih =>
      intro m F h
      rw [show m ++ s :: l = (m ++ [s]) ++ l by simp]
      refine ih (m ++ [s]) _ ⟨put_nodup h.nd, fun x hx => ?_, fun z => ?_⟩
      · rcases put_mem hx with rfl | hx
        · rfl
        · exact h.key x hx
      · have hin : ∀ x ∈ F, x ∈ put F (⟨s⟩ : Tup Tx) s := fun x hx => by
          have hl : look F x.1 = some x.2 := look_of_mem h.nd hx
          refine look_mem (k := x.1) (v := x.2) ?_
          rw [look_put]
          by_cases hk : x.1 = ⟨s⟩
          · have := h.key x hx
            rw [hk] at this
            rw [if_pos hk]; exact congrArg some this
          · rw [if_neg hk]; exact hl
        constructor
        · intro hz
          obtain ⟨x, hx, rfl⟩ := List.mem_map.mp hz
          rcases put_mem hx with rfl | hx
          · simp
          · exact List.mem_append_left _ ((h.mem x.2).mp (List.mem_map.mpr ⟨x, hx, rfl⟩))
        · intro hz
          rcases List.mem_append.mp hz with hz | hz
          · obtain ⟨x, hx, rfl⟩ := List.mem_map.mp ((h.mem z).mpr hz)
            exact List.mem_map.mpr ⟨x, hin x hx, rfl⟩
          · obtain rfl := List.mem_singleton.mp hz
            exact List.mem_map.mpr ⟨(⟨z⟩, z), look_mem (by rw [look_put, if_pos rfl]), rfl⟩
  have := go l [] [] ⟨List.nodup_nil, fun _ h => (List.not_mem_nil h).elim, fun _ => by simp⟩
  rw [List.nil_append] at this
  exact this
theorem keyed_vals_nodup (l : List Pic) : ((keyed l).map (·.2)).Nodup := by
  have h := keyed_ok l
  have e : (keyed l).map (·.2) = ((keyed l).map (·.1)).map Tup.l := by
    rw [List.map_map]
    exact List.map_congr_left fun x hx => (h.key x hx).symm
  rw [e]
  exact List.pairwise_map.mpr (h.nd.imp fun {a b} hne e => hne (by cases a; cases b; exact congrArg Tup.mk e))
noncomputable abbrev repPic : Rep Pic := repList
noncomputable abbrev kSeen (x : Pic) : Int × Pic := (cellsOf x, x)
noncomputable def seenL (p : Pic) (r c : Nat) : List Pic := ((keyed (seenAll p r c)).map (·.2)).mergeSort (PySem.W.dataLe false fun x => ((IsD.d (kSeen x) : Dy)).py)
theorem seenL_perm (p : Pic) (r c : Nat) : (seenL p r c).Perm ((keyed (seenAll p r c)).map (·.2)) := List.mergeSort_perm _ _
theorem seenL_mem {p : Pic} {r c : Nat} {s : Pic} : s ∈ seenL p r c ↔ s ∈ seenAll p r c := (seenL_perm p r c).mem_iff.trans ((keyed_ok _).mem s)
theorem seenAll_mem {p : Pic} {r c : Nat} {s : Pic} : s ∈ seenAll p r c ↔ ∃ x ∈ windows r c, ∃ t < 8, s = turned (winPic p x) t := by
  unfold seenAll turns8
  constructor
  · intro h
    obtain ⟨x, hx, h⟩ := List.mem_flatMap.mp h
    obtain ⟨t, ht, rfl⟩ := List.mem_map.mp h
    exact ⟨x, hx, t, List.mem_range.mp ht, rfl⟩
  · rintro ⟨x, hx, t, ht, rfl⟩
    exact List.mem_flatMap.mpr ⟨x, hx, List.mem_map.mpr ⟨t, List.mem_range.mpr ht, rfl⟩⟩
theorem seen_pk {p : Pic} {r c : Nat} (hp : Pk p r c) {s : Pic} (h : s ∈ seenAll p r c) : ∃ r' c', Pk s r' c' := by
  obtain ⟨x, hx, t, _, rfl⟩ := seenAll_mem.mp h
  obtain ⟨t', l, b, q, rfl, h1, h2, h3, h4⟩ := mem_windows hx
  exact ⟨_, _, (hp.cut h1 h2 h3 h4).turned t⟩
theorem seenAll_len {p : Pic} {r c : Nat} (hr : r ≤ 6) (hc : c ≤ 6) : (seenAll p r c).length ≤ 10368 := by
  unfold seenAll
  have h1 := flat_len (windows r c) (fun x => turns8 (winPic p x)) 8 fun x _ => by unfold turns8; simp
  have h2 := wn_len (r := r) (c := c) r hr hr hc
  have h3 : (windows r c).length ≤ 1296 := h2
  omega
theorem alike_strs : ∀ xs ys : List Tx, PySem.W.alikeAll (Dy.pys (xs.map Dy.s)) (Dy.pys (ys.map Dy.s)) = true
  | [], _ => by simp [Dy.pys, PySem.W.alikeAll]
  | _ :: _, [] => by simp [Dy.pys, PySem.W.alikeAll]
  | x :: xs, y :: ys => by
    show PySem.W.alikeAll (.str (sx x) :: Dy.pys (xs.map Dy.s)) (.str (sx y) :: Dy.pys (ys.map Dy.s)) = true
    rw [PySem.W.alikeAll, alike_strs xs ys]
    simp [PySem.W.alike]
theorem depth_strs : ∀ xs : List Tx, PyData.depthAll (Dy.pys (xs.map Dy.s)) = 0
  | [] => by simp [Dy.pys, PyData.depthAll]
  | x :: xs => by
    show PyData.depthAll (.str (sx x) :: Dy.pys (xs.map Dy.s)) = 0
    rw [PyData.depthAll, depth_strs xs]
    simp [PyData.depth]
theorem kSeen_py (x : Pic) : (IsD.d (kSeen x) : Dy).py = .tuple [.int (cellsOf x), .list (Dy.pys (x.map Dy.s))] := by
  show Dy.py (.t [.i (cellsOf x), .l (x.map Dy.s)]) = _
  rw [Dy.py, Dy.pys, Dy.pys, Dy.pys, Dy.py, Dy.py]
theorem kSeen_alike (l : List Pic) : PySem.W.AllAlike (l.map fun x => (IsD.d (kSeen x) : Dy).py) := PySem.W.AllAlike.of fun x y => by
  rw [kSeen_py, kSeen_py, PySem.W.alike, PySem.W.alikeAll, PySem.W.alikeAll, PySem.W.alikeAll, PySem.W.alike, PySem.W.alike, alike_strs]
  rfl
theorem kSeen_sortable (l : List Pic) : PySem.W.Sortable (l.map fun x => (IsD.d (kSeen x) : Dy).py) := PySem.W.Sortable.tuples fun x => ⟨_, _, kSeen_py x⟩
theorem kSeen_depth (x : Pic) : ((IsD.d (kSeen x) : Dy).py).depth ≤ 64 := by
  rw [kSeen_py, PyData.depth, PyData.depthAll, PyData.depthAll, PyData.depthAll, PyData.depth, PyData.depth, depth_strs]
  decide
noncomputable def manyCS : Tw.Spec := fun A P _ => ∃ (p : Pic) (r c : Nat), A = [vl p] ∧ Pk p r c ∧ P (rv (kSeen p))
noncomputable def seenS : Tw.Spec := fun A P _ => ∃ (p : Pic) (r c : Nat), A = [vl p] ∧ Pk p r c ∧ P (rn (seenL p r c))
section
variable {P : Program} {w : World} {K : PySem.W.Frag} {mg : Str → Option Value} {base : Heap}
theorem ok_many_cells (T : Txt K mg) : Has P w K mg base 2 "many_cells" ["picture"] manyCS := by
  refine Has.of T.f_many_cells sc_many_cells (fun A Q R ⟨p, r, c, e, _⟩ => by rw [e]; rfl) fun f cdv A outer s0 H E hr Γ Q R ⟨p, r, c, e, hp, hq⟩ => ?_
  subst e
  have h1 := hp.r6
  have h2 := hp.c6
  refine st_unpack2 1 2 (ev_tp (ev_call (ok_size_of T) (hr.mono (by decide)) (ea_cons (ev_var 0) ea_nil) fun P R h => ⟨_, _, _, rfl, hp, h⟩)) ?_ (pg2 1 2 (pgn 1 sc_many_cells.nd) (pgn 2 sc_many_cells.nd))
  exact st_retV (ev_pair (ev_eq (ev_bin (o_mul (x := (r : Int)) (y := (c : Int)) (mulR (by omega) (by omega))) (ev_var 1) (ev_var 2)) hp.cells.symm) (ev_var 0)) hq
theorem ok_seen_in (T : Txt K mg) : Has P w K mg base 5 "seen_in" ["picture"] seenS := by
  refine Has.of T.f_seen_in sc_seen_in (fun A Q R ⟨p, r, c, e, _⟩ => by rw [e]; rfl) fun f cdv A outer s0 H E hr Γ Q R ⟨p, r, c, e, hp, hq⟩ => ?_
  subst e
  have hr6 := hp.r6
  have hc6 := hp.c6
  refine st_unpack2 1 2 (ev_tp (ev_call (ok_size_of T) (hr.mono (by decide)) (ea_cons (ev_var 0) ea_nil) fun P R h => ⟨_, _, _, rfl, hp, h⟩)) ?_ (pg2 1 2 (pgn 1 sc_seen_in.nd) (pgn 2 sc_seen_in.nd))
  refine st_setD (Tup Tx) repPic 3 (fun ad => ?_) sc_seen_in.nd
  have hW : (windows r c).length ≤ 1296 := wn_len (r := r) (c := c) r hr6 hr6 hc6
  refine st_for (xs := windows r c) (fun k Γ => Le Γ [vl p, vl (r : Int), vl (c : Int), .own (ownD (Tup Tx) repPic ad (keyed (((windows r c).take k).flatMap fun x => turns8 (winPic p x)))), .no, .no, .no, .no])
    (src_list (ev_of_en (en_call (ok_windows_of T) (hr.mono (by decide)) (ea_cons (ev_var 1) (ea_cons (ev_var 2) ea_nil)) fun P R h => ⟨_, _, rfl, hr6, hc6, h⟩))) (tg_name 4) (by
      show Le _ [vl p, vl (r : Int), vl (c : Int), .own (ownD (Tup Tx) repPic ad (keyed [])), .no, .no, .no, .no]
      walk_at "le") (fun k x Γ1 hk hP => ?_) (fun Γ1 hP => ?_) (pgn 4 sc_seen_in.nd)
  · obtain ⟨hlt, ex⟩ := List.getElem?_eq_some_iff.mp hk
    obtain ⟨t', l, b, q, rfl, h1, h2, h3, h4⟩ := mem_windows (ex ▸ List.getElem_mem hlt)
    have hcut := hp.cut h1 h2 h3 h4
    refine st_le (Le.set hP 4 _) ?_
    have el : ((windows r c).take (k + 1)).flatMap (fun x => turns8 (winPic p x)) = ((windows r c).take k).flatMap (fun x => turns8 (winPic p x)) ++ turns8 (winPic p (win t' l b q)) := by
      rw [List.take_succ, hk, List.flatMap_append]
      simp
    have nl : (((windows r c).take k).flatMap (fun x => turns8 (winPic p x))).length ≤ 10368 := by
      have h1 := flat_len ((windows r c).take k) (fun x => turns8 (winPic p x)) 8 fun x _ => by unfold turns8; simp
      have h2 : ((windows r c).take k).length ≤ 1296 := by rw [List.length_take]; omega
      omega
    generalize hf : ((windows r c).take k).flatMap (fun x => turns8 (winPic p x)) = f0 at el nl
    refine st_set 5 (x := cutOut p t' l b q) (ev_of_en (en_call (ok_cut_out T) (hr.mono (by decide)) (ea_cons (ev_var 0) (ea_cons (ev_var 4) ea_nil)) fun P R h => ⟨_, _, _, _, _, _, _, rfl, hp, h1, h2, h3, h4, h⟩)) ?_ sc_seen_in.nd
    refine st_for (xs := rng 0 (8 : Int).toNat) (fun k Γ => Le Γ [vl p, vl (r : Int), vl (c : Int), .own (ownD (Tup Tx) repPic ad (keyed (f0 ++ (List.range k).map fun t => turned (cutOut p t' l b q) t))), vl (win t' l b q), vl (cutOut p t' l b q), .no, .no])
      (src_range T.b_range (ev_eq (y := (8 : Int)) (ev_bin (o_mul (x := 2) (y := 4) mulR) ev_int (ev_gintE T.c_MIRROR)) rfl) (by decide) (by decide)) (tg_name 6) (by
        show Le _ [vl p, vl (r : Int), vl (c : Int), .own (ownD (Tup Tx) repPic ad (keyed (f0 ++ []))), vl (win t' l b q), vl (cutOut p t' l b q), .no, .no]
        rw [List.append_nil]
        walk_at "le") (fun m x Γ2 hk2 hP2 => ?_) (fun Γ2 hP2 => st_nil ?_) (pgn 6 sc_seen_in.nd)
    · obtain ⟨hm, rfl⟩ := rng_get0 hk2
      have hm8 : m < 8 := by simpa using hm
      refine st_le (Le.set hP2 6 _) ?_
      refine st_set 7 (x := turned (cutOut p t' l b q) m) (ev_of_en (en_eq (en_call (ok_turned T) (hr.mono (by decide)) (ea_cons (ev_var 5) (ea_cons (ev_var 6) ea_nil)) fun P R h => ⟨_, _, _, (m : Int), rfl, hcut, by omega, h⟩) (by rw [Int.toNat_natCast]))) ?_ sc_seen_in.nd
      refine st_dput hr 3 (ev_var 7) (ev_tupL T.b_tuple (ev_var 7)) ?_ (st_nil ?_)
      · have := keyed_len (f0 ++ (List.range m).map fun t => turned (cutOut p t' l b q) t)
        rw [List.length_append, List.length_map, List.length_range] at this
        exact Nat.lt_of_le_of_lt (show _ ≤ 20000 by omega) (by decide)
      · show Le _ [vl p, vl (r : Int), vl (c : Int), .own (ownD (Tup Tx) repPic ad (keyed (f0 ++ (List.range (m + 1)).map fun t => turned (cutOut p t' l b q) t))), vl (win t' l b q), vl (cutOut p t' l b q), .no, .no]
        rw [List.range_succ, List.map_append, List.map_singleton, ← List.append_assoc, keyed_snoc]
        walk_at "le"
    · rw [rng_len] at hP2
      refine hP2.trans ?_
      show Le _ [vl p, vl (r : Int), vl (c : Int), .own (ownD (Tup Tx) repPic ad (keyed (((windows r c).take (k + 1)).flatMap fun x => turns8 (winPic p x)))), .no, .no, .no, .no]
      rw [el, winPic_win]
      unfold turns8
      walk_at "le"
  · rw [List.take_length] at hP
    have e1 : ((windows r c).flatMap fun x => turns8 (winPic p x)) = seenAll p r c := rfl
    rw [e1] at hP
    refine st_le hP (st_retE (en_sortedVals 3 (kf := kSeen) T.b_sorted (ok_many_cells T) (hr.mono (by decide)) (fun x hx P' R' h => ?_) (kSeen_alike _) (kSeen_sortable _) (fun x _ => kSeen_depth x)) hq)
    obtain ⟨r', c', h'⟩ := seen_pk hp (((keyed_ok _).mem x).mp hx)
    exact ⟨x, r', c', rfl, h', h⟩
end
noncomputable def lcScope (d : Scope) : Expr → Scope
  | .ListComp _ _ sc _ => sc
  | _ => d
noncomputable def retExpr (d : Expr) : Stmt → Expr
  | .Return (some e) _ => e
  | _ => d
noncomputable def eltE (d : Expr) : Expr → Expr
  | .ListComp e _ _ _ => e
  | _ => d
noncomputable def argE (d : Expr) : Expr → Expr
  | .Call _ (a :: _) _ _ => a
  | _ => d
noncomputable def lturnS : Tw.Spec := fun A P _ => ∃ (p : Pic) (r c : Nat) (t : Int), A = [vl p, vl t] ∧ Pk p r c ∧ 0 ≤ t ∧ P (rv (turned p t.toNat))
section
variable {P : Program} {w : World} {K : PySem.W.Frag} {mg : Str → Option Value} {base : Heap}
noncomputable def lqScope : Scope := relabel (lcScope (defScope s_law_quarter) (retExpr (.Constant .none 0 ⟨0, 0, 0, 0⟩) ((defBody s_law_quarter).getD 1 (.Pass ⟨0, 0, 0, 0⟩)))) (envOfC "_law_quarter" (defScope s_law_quarter) 0 0 .none)
noncomputable def lqInner : Scope := lcScope (defScope s_law_quarter) (argE (.Constant .none 0 ⟨0, 0, 0, 0⟩) (eltE (.Constant .none 0 ⟨0, 0, 0, 0⟩) (retExpr (.Constant .none 0 ⟨0, 0, 0, 0⟩) ((defBody s_law_quarter).getD 1 (.Pass ⟨0, 0, 0, 0⟩)))))
theorem quarter_at {p : Pic} {r c : Nat} (hp : Pk p r c) {j : Nat} (hj : j < c) : joinL (tx "") ((rng 0 r).map fun i => ([(p.getD (r - 1 - i.toNat) []).getD j 0] : Tx)) = (p.reverse.map fun row => row.getD j 0) := by
  show joinL [] _ = _
  rw [joinOnes]
  refine List.ext_getElem? fun k => ?_
  rw [List.getElem?_map, List.getElem?_map]
  by_cases h : k < r
  · rw [show (rng 0 r)[k]? = some (k : Int) by unfold rng; simp [h], List.getElem?_reverse (by rw [hp.len]; exact h), hp.len]
    have h2 : r - 1 - k < p.length := by rw [hp.len]; omega
    show some ((p.getD (r - 1 - ((k : Int)).toNat) []).getD j 0) = Option.map _ _
    rw [Int.toNat_natCast, List.getD_eq_getElem?_getD (l := p), List.getElem?_eq_getElem h2]
    rfl
  · rw [List.getElem?_eq_none (by rw [rng_len]; omega), List.getElem?_eq_none (by rw [List.length_reverse, hp.len]; omega)]
    rfl
theorem ok_law_quarter (T : Txt K mg) : Has P w K mg base 1 "_law_quarter" ["_law_rows"] quarterS := by
  refine Has.of T.f_law_quarter sc_law_quarter (fun A Q R ⟨p, r, c, e, _⟩ => by rw [e]; rfl) fun f cdv A outer s0 H E hr Γ Q R ⟨p, r, c, e, hp, hq⟩ => ?_
  subst e
  obtain ⟨h0, h1⟩ := hp.head
  have hc6 := hp.c6
  have hr6 := hp.r6
  have hlen := hp.len
  have hq' : Q (rn ((rng 0 c).map fun j => p.reverse.map fun row => row.getD j.toNat 0)) := by
    have e : ((rng 0 c).map fun j : Int => p.reverse.map fun row => row.getD j.toNat 0) = quarter p := by
      unfold quarter rng
      rw [h1, List.map_map]
      refine List.map_congr_left fun j _ => ?_
      show (p.reverse.map fun row => row.getD (0 + (j : Int)).toNat 0) = _
      rw [show (0 + (j : Int)).toNat = j by omega]
    rw [e]; exact hq
  refine st_set 1 (x := (p.length : Int) - 1) (ev_bin o_sub (ev_len T.b_len (ev_var 0)) ev_int) ?_ sc_law_quarter.nd
  refine st_retE (en_eq (en_lc (α := Int) (β := Tx) (own := [("_law_i", 2)]) (f := fun j => joinL (tx "") ((rng 0 r).map fun i => ([(p.getD (r - 1 - i.toNat) []).getD j.toNat 0] : Tx))) (src_range (n := ((p.headD []).length : Int)) T.b_range (ev_lenS T.b_len (ev_ixL (ev_var 0) ev_int h0) (sl6 (by rw [h1]; exact hc6))) (by omega) (by rw [h1]; omega)) (tg_name 2) (fun _ _ _ _ _ => pgn 2 sc_law_quarter.nd)
    (fun j hj _ _ _ _ _ => ?_) sc_law_quarter.nd (ok := bk_law_quarter (by decide +kernel)) (hz := by rw [rng_len, Int.toNat_natCast, h1]; exact sl6 hc6)) ?_) hq'
  · obtain ⟨m, hm, rfl⟩ := rng_mem hj
    rw [Int.zero_add]
    have hmc : m < c := by rw [Int.toNat_natCast, h1] at hm; exact hm
    refine ev_join (xs := (rng 0 r).map fun i => ([(p.getD (r - 1 - i.toNat) []).getD ((m : Int)).toNat 0] : Tx)) (ev_str "") (ev_of_en (en_eq (en_lc (α := Int) (β := Tx) (own := [("_law_j", 3)]) (f := fun i => ([(p.getD (r - 1 - i.toNat) []).getD ((m : Int)).toNat 0] : Tx)) (src_range (n := (p.length : Int)) T.b_range (ev_len T.b_len (ev_var 0)) (by omega) (by omega)) (tg_name 3) (fun _ _ _ _ _ => pgn 3 sc_law_quarter.nd)
      (fun i hi _ _ _ _ _ => ?_) sc_law_quarter.nd (ok := @L2.blkOk_by N_law_quarter lqScope lqInner [("_law_j", 3)] (by decide +kernel)) (hz := by rw [rng_len, Int.toNat_natCast, hlen]; exact sl6 hr6)) (by simp only [Int.toNat_natCast, hlen]))) ?_
    · obtain ⟨n, hn, rfl⟩ := rng_mem hi
      rw [Int.zero_add]
      have hnr : n < r := by rw [Int.toNat_natCast, hlen] at hn; exact hn
      have hlt : r - 1 - n < p.length := by omega
      have hrow := hp.row _ (List.getElem_mem hlt)
      have e1 : p.getD (r - 1 - ((n : Int)).toNat) [] = p[r - 1 - n] := by rw [Int.toNat_natCast, List.getD_eq_getElem?_getD, List.getElem?_eq_getElem hlt]; rfl
      rw [e1]
      refine ev_ixS (x := p[r - 1 - n]) (ev_ixL (xs := p) (ev_var 0) (ev_eq (y := ((r - 1 - n : Nat) : Int)) (ev_bin o_sub (ev_var 1) (ev_var 3)) (by omega)) (atI_nat (List.getElem?_eq_getElem hlt))) (ev_var 2) ?_ (by rw [hrow]; exact sl6 hc6)
      rw [Int.toNat_natCast, List.getD_eq_getElem?_getD, List.getElem?_eq_getElem (by omega)]
      exact atI_nat (List.getElem?_eq_getElem (by omega))
    · show _ + _ * 0 ≤ _
      rw [sum_ones, rng_len]; omega
  · rw [Int.toNat_natCast, h1]
    refine List.map_congr_left fun j hj => ?_
    obtain ⟨m, hm, rfl⟩ := rng_mem hj
    rw [Int.zero_add]
    exact quarter_at hp hm
theorem ok_law_turned (T : Txt K mg) : Has P w K mg base 2 "_law_turned" ["_law_rows", "_law_t"] lturnS := by
  refine Has.of T.f_law_turned sc_law_turned (fun A Q R ⟨p, r, c, t, e, _⟩ => by rw [e]; rfl) fun f cdv A outer s0 H E hr Γ Q R ⟨p, r, c, t, e, hp, ht, hq⟩ => ?_
  subst e
  have last : ∀ (q : Pic) (r c : Nat), Pk q r c → turned p t.toNat = quarters (t.toNat % 4) q → Tw.ST (cxOf (L2.CX P w) P w K mg base N_law_turned "_law_turned" (defScope s_law_turned) f cdv A outer s0 H E).nox ((defBody s_law_turned).drop 1) [vl q, vl t, .no, .no] (fin Q) := by
    intro q r c hk eq
    refine st_for (fun k Γ' => Le Γ' [vl (quarters k q), vl t, .no, .no]) (src_range (n := t % 4) T.b_range (ev_bin (o_mod (by decide)) (ev_var 1) ev_int) (by omega) (by omega)) (tg_name 2) Le.refl (fun k x Γ' hk' hP => ?_) (fun Γ' hP => ?_) (pgn 2 sc_law_turned.nd)
    · refine st_le (Le.set hP 2 _) ?_
      refine st_set 0 (x := quarters (k + 1) q) (ev_of_en (en_call (ok_law_quarter T) (hr.mono (by decide)) (ea_cons (ev_var 0) ea_nil) fun P R h => ⟨_, _, _, rfl, hk.quarters k, h⟩)) (st_nil ?_) sc_law_turned.nd
      exact le_cons (le_cons (le_no (le_no le_nil)))
    · refine st_le hP ?_
      rw [rng_len, show (t % 4).toNat = t.toNat % 4 by omega] at *
      rw [eq] at hq
      exact st_retV (ev_var 0) hq
  refine st_if (et_cmp o_gt (ev_var 1) ev_int) (fun h => ?_) (fun h => st_nil ?_)
  · have h3 : 4 ≤ t.toNat := by have := of_decide_eq_true h; omega
    refine st_setLc 0 (α := Tx) (β := Tx) (own := [("_law_row_here", 3)]) (f := List.reverse) (src_list (xs := p) (ev_var 0)) (tg_name 3) (fun _ _ _ _ _ => pgn 3 sc_law_turned.nd) (fun x hx _ _ _ _ _ => ev_revS (ev_var 3) (by rw [hp.row x hx]; exact sl6 hp.c6)) sc_law_turned.nd (by rw [hp.len]; exact sl6 hp.r6) (fun ad => ?_) (ok := bk_law_turned (by decide +kernel))
    refine st_freeze 0 (x := mirrored p) frozL (st_nil ?_)
    exact last _ _ _ hp.mirrored (by unfold turned; rw [if_pos h3])
  · have h3 : ¬ 4 ≤ t.toNat := by have := of_decide_eq_false h; omega
    exact last p _ _ hp (by unfold turned; rw [if_neg h3])
end
local macro_rules | `(tactic| walk_at "le") => `(tactic| repeat (first | exact le_nil | refine le_cons ?_ | refine le_no ?_))
noncomputable abbrev awP (F0 : Hp) : Rep Pic := repAwayL (α := Tx) F0
noncomputable def seenOS : Tw.Spec := fun A P _ => ∃ (p : Pic) (r c : Nat), A = [vl p] ∧ Pk p r c ∧ P (.own fun o => ∃ a ts, ts.length = (seenL p r c).length ∧ o = ownLL a ts (seenL p r c))
theorem ev_un {X : Cx} {Γ : List Slot} {e : Expr} {α : Type} {i : Rep α} {F0 : Hp} {x : α} (h : @EV X Γ e α (repGho i F0) x) : @EV X Γ e α i x := ev_conv (i := repGho i F0) (j := i) h fun _ _ _ r => r.1
section
variable {P : Program} {w : World} {K : PySem.W.Frag} {mg : Str → Option Value} {base : Heap}
theorem ok_seen_inO (T : Txt K mg) : Has P w K mg base 5 "seen_in" ["picture"] seenOS := by
  refine Has.of T.f_seen_in sc_seen_in (fun A Q R ⟨p, r, c, e, _⟩ => by rw [e]; rfl) fun f cdv A outer s0 H E hr Γ Q R ⟨p, r, c, e, hp, hq⟩ => ?_
  subst e
  have hr6 := hp.r6
  have hc6 := hp.c6
  refine st_tellLL 0 (lr := repPic) (z := p) (ys := seenL p r c) (fun F0 => ?_) hq (fun a ts h => ⟨a, ts, h, rfl⟩)
  refine st_unpack2 1 2 (ev_tp (ev_call (ok_size_of T) (hr.mono (by decide)) (ea_cons (ev_un (F0 := F0) (ev_var (i := repGho repPic F0) 0)) ea_nil) fun P R h => ⟨_, _, _, rfl, hp, h⟩)) ?_ (pg2 1 2 (pgn 1 sc_seen_in.nd) (pgn 2 sc_seen_in.nd))
  refine st_setD (Tup Tx) (awP F0) 3 (fun ad => ?_) sc_seen_in.nd
  have hW : (windows r c).length ≤ 1296 := wn_len (r := r) (c := c) r hr6 hr6 hc6
  refine st_for (xs := windows r c) (fun k Γ => Le Γ [.val (repGho repPic F0) p, vl (r : Int), vl (c : Int), .own (ownD (Tup Tx) (awP F0) ad (keyed (((windows r c).take k).flatMap fun x => turns8 (winPic p x)))), .no, .no, .no, .no])
    (src_list (ev_of_en (en_call (ok_windows_of T) (hr.mono (by decide)) (ea_cons (ev_var 1) (ea_cons (ev_var 2) ea_nil)) fun P R h => ⟨_, _, rfl, hr6, hc6, h⟩))) (tg_name 4) (by
      show Le _ [.val (repGho repPic F0) p, vl (r : Int), vl (c : Int), .own (ownD (Tup Tx) (awP F0) ad (keyed [])), .no, .no, .no, .no]
      walk_at "le") (fun k x Γ1 hk hP => ?_) (fun Γ1 hP => ?_) (pgn 4 sc_seen_in.nd)
  · obtain ⟨hlt, ex⟩ := List.getElem?_eq_some_iff.mp hk
    obtain ⟨t', l, b, q, rfl, h1, h2, h3, h4⟩ := mem_windows (ex ▸ List.getElem_mem hlt)
    have hcut := hp.cut h1 h2 h3 h4
    refine st_le (Le.set hP 4 _) ?_
    have el : ((windows r c).take (k + 1)).flatMap (fun x => turns8 (winPic p x)) = ((windows r c).take k).flatMap (fun x => turns8 (winPic p x)) ++ turns8 (winPic p (win t' l b q)) := by
      rw [List.take_succ, hk, List.flatMap_append]
      simp
    have nl : (((windows r c).take k).flatMap (fun x => turns8 (winPic p x))).length ≤ 10368 := by
      have h1 := flat_len ((windows r c).take k) (fun x => turns8 (winPic p x)) 8 fun x _ => by unfold turns8; simp
      have h2 : ((windows r c).take k).length ≤ 1296 := by rw [List.length_take]; omega
      omega
    generalize hf : ((windows r c).take k).flatMap (fun x => turns8 (winPic p x)) = f0 at el nl
    refine st_set 5 (x := cutOut p t' l b q) (ev_of_en (en_call (ok_cut_out T) (hr.mono (by decide)) (ea_cons (ev_un (F0 := F0) (ev_var (i := repGho repPic F0) 0)) (ea_cons (ev_var 4) ea_nil)) fun P R h => ⟨_, _, _, _, _, _, _, rfl, hp, h1, h2, h3, h4, h⟩)) ?_ sc_seen_in.nd
    refine st_for (xs := rng 0 (8 : Int).toNat) (fun k Γ => Le Γ [.val (repGho repPic F0) p, vl (r : Int), vl (c : Int), .own (ownD (Tup Tx) (awP F0) ad (keyed (f0 ++ (List.range k).map fun t => turned (cutOut p t' l b q) t))), vl (win t' l b q), vl (cutOut p t' l b q), .no, .no])
      (src_range T.b_range (ev_eq (y := (8 : Int)) (ev_bin (o_mul (x := 2) (y := 4) mulR) ev_int (ev_gintE T.c_MIRROR)) rfl) (by decide) (by decide)) (tg_name 6) (by
        show Le _ [.val (repGho repPic F0) p, vl (r : Int), vl (c : Int), .own (ownD (Tup Tx) (awP F0) ad (keyed (f0 ++ []))), vl (win t' l b q), vl (cutOut p t' l b q), .no, .no]
        rw [List.append_nil]
        walk_at "le") (fun m x Γ2 hk2 hP2 => ?_) (fun Γ2 hP2 => st_nil ?_) (pgn 6 sc_seen_in.nd)
    · obtain ⟨hm, rfl⟩ := rng_get0 hk2
      have hm8 : m < 8 := by simpa using hm
      refine st_le (Le.set hP2 6 _) ?_
      refine st_set 7 (i := awP F0) (x := turned (cutOut p t' l b q) m) (ev_away 0 (iz := repPic) (z := p) (en_eq (en_call (ok_turned T) (hr.mono (by decide)) (ea_cons (ev_var 5) (ea_cons (ev_var 6) ea_nil)) fun P R h => ⟨_, _, _, (m : Int), rfl, hcut, by omega, h⟩) (by rw [Int.toNat_natCast]))) ?_ sc_seen_in.nd
      refine st_dput (i := awP F0) hr 3 (ev_var 7) (ev_tupL T.b_tuple (ev_conv (j := repPic) (ev_var (i := awP F0) 7) fun _ _ _ r => away_down r)) ?_ (st_nil ?_)
      · have := keyed_len (f0 ++ (List.range m).map fun t => turned (cutOut p t' l b q) t)
        rw [List.length_append, List.length_map, List.length_range] at this
        exact Nat.lt_of_le_of_lt (show _ ≤ 20000 by omega) (by decide)
      · show Le _ [.val (repGho repPic F0) p, vl (r : Int), vl (c : Int), .own (ownD (Tup Tx) (awP F0) ad (keyed (f0 ++ (List.range (m + 1)).map fun t => turned (cutOut p t' l b q) t))), vl (win t' l b q), vl (cutOut p t' l b q), .no, .no]
        rw [List.range_succ, List.map_append, List.map_singleton, ← List.append_assoc, keyed_snoc]
        walk_at "le"
    · rw [rng_len] at hP2
      refine hP2.trans ?_
      show Le _ [.val (repGho repPic F0) p, vl (r : Int), vl (c : Int), .own (ownD (Tup Tx) (awP F0) ad (keyed (((windows r c).take (k + 1)).flatMap fun x => turns8 (winPic p x)))), .no, .no, .no, .no]
      rw [el, winPic_win]
      unfold turns8
      walk_at "le"
  · rw [List.take_length] at hP
    have e1 : ((windows r c).flatMap fun x => turns8 (winPic p x)) = seenAll p r c := rfl
    rw [e1] at hP
    refine st_le hP (st_retE (en_sortedVals 3 (i := awP F0) (kf := kSeen) T.b_sorted ((ok_many_cells T).weak (j := awP F0) (i := repPic) fun r => away_down r) (hr.mono (by decide)) (fun x hx P' R' h => ?_) (kSeen_alike _) (kSeen_sortable _) (fun x _ => kSeen_depth x)) rfl)
    obtain ⟨r', c', h'⟩ := seen_pk hp (((keyed_ok _).mem x).mp hx)
    exact ⟨x, rfl, x, r', c', rfl, h', h⟩
end
local macro_rules | `(tactic| walk_at "le") => `(tactic| repeat (first | exact le_nil | refine le_cons ?_ | refine le_no ?_))
noncomputable def rowSt07 (sg : Tx) (free : Bool) (c : Int) : Nat → Int × Tx
  | 0 => (c, [])
  | j + 1 =>
    let q := rowSt07 sg free c j
    if free = true then (q.1 / (sg.length : Int), q.2 ++ [sg.getD (q.1 % (sg.length : Int)).toNat 0])
    else ((q.1 * 48271 + (j : Int) * (j : Int) + 7) % 2147483647, q.2 ++ [sg.getD ((q.1 * 48271 + (j : Int) * (j : Int) + 7) % 2147483647 / 5 % (sg.length : Int)).toNat 0])
noncomputable def lawRow07 (c : Int) (wide : Nat) (sg : Tx) (free : Bool) : Tx := (rowSt07 sg free (if free = true then c else c % 2147483647) wide).2
noncomputable def lawPic07 (s : List Int) (at_ : Int) (rows wide : Nat) (sg : Tx) : Pic := (rng 0 rows).map fun k => lawRow07 (lawCell s (at_ + k)) wide sg (decide (lawCell s 1 / 128 % 2 = 1))
theorem rowSt07_t {sg : Tx} {c : Int} {j : Nat} : rowSt07 sg true c (j + 1) = ((rowSt07 sg true c j).1 / (sg.length : Int), (rowSt07 sg true c j).2 ++ [sg.getD ((rowSt07 sg true c j).1 % (sg.length : Int)).toNat 0]) := rfl
theorem rowSt07_f {sg : Tx} {c : Int} {j : Nat} : rowSt07 sg false c (j + 1) = (((rowSt07 sg false c j).1 * 48271 + (j : Int) * (j : Int) + 7) % 2147483647, (rowSt07 sg false c j).2 ++ [sg.getD (((rowSt07 sg false c j).1 * 48271 + (j : Int) * (j : Int) + 7) % 2147483647 / 5 % (sg.length : Int)).toNat 0]) := rfl
theorem rowSt07_len {sg : Tx} {free : Bool} {c : Int} : ∀ j, (rowSt07 sg free c j).2.length = j
  | 0 => rfl
  | j + 1 => by
    cases free
    · rw [rowSt07_f, List.length_append, rowSt07_len j]; rfl
    · rw [rowSt07_t, List.length_append, rowSt07_len j]; rfl
theorem rowSt07_ok {sg : Tx} (h : TxOk sg) {free : Bool} {c : Int} : ∀ j, TxOk (rowSt07 sg free c j).2
  | 0 => fun _ hx => nomatch hx
  | j + 1 => fun x hx => by
    cases free
    · rw [rowSt07_f] at hx
      rcases List.mem_append.mp hx with hx | hx
      · exact rowSt07_ok h j x hx
      · rw [List.mem_singleton.mp hx]; exact getD_ok h _
    · rw [rowSt07_t] at hx
      rcases List.mem_append.mp hx with hx | hx
      · exact rowSt07_ok h j x hx
      · rw [List.mem_singleton.mp hx]; exact getD_ok h _
theorem lawPic07_pk {s : List Int} {at_ : Int} {r c : Nat} {sg : Tx} (hr : 0 < r) (hr6 : r ≤ 6) (hc : 0 < c) (hc6 : c ≤ 6) : Pk (lawPic07 s at_ r c sg) r c :=
  ⟨by unfold lawPic07; rw [List.length_map, rng_len], fun x hx => by
    unfold lawPic07 at hx
    obtain ⟨k, _, rfl⟩ := List.mem_map.mp hx
    exact rowSt07_len _, hr, hc, hr6, hc6⟩
theorem lawPic07_ok {s : List Int} {at_ : Int} {r c : Nat} {sg : Tx} (h : TxOk sg) : PicOk (lawPic07 s at_ r c sg) := fun x hx => by
  unfold lawPic07 at hx
  obtain ⟨k, _, rfl⟩ := List.mem_map.mp hx
  exact rowSt07_ok h _
noncomputable def row07S : Tw.Spec := fun A P _ => ∃ (c : Int) (wide : Nat) (sg : Tx) (free : Bool), A = [vl c, vl (wide : Int), vl sg, vl free] ∧ wide ≤ 100 ∧ 0 < sg.length ∧ sg.length ≤ 1000 ∧ P (rv (lawRow07 c wide sg free))
noncomputable def pic07S : Tw.Spec := fun A P _ => ∃ (s : Scr) (at_ : Int) (rows wide : Nat) (sg : Tx), A = [vl s, vl at_, vl (rows : Int), vl (wide : Int), vl sg] ∧ s.l.length ≤ 63 ∧ 0 ≤ at_ ∧ rows ≤ 100 ∧ wide ≤ 100 ∧ 0 < sg.length ∧ sg.length ≤ 1000 ∧ P (rn (lawPic07 s.l at_ rows wide sg))
theorem ix_mod {sg : Tx} (h : 0 < sg.length) (n : Int) : atI sg (n % (sg.length : Int)) = some (sg.getD (n % (sg.length : Int)).toNat 0) := by
  have h1 := Int.emod_nonneg n (by omega : (sg.length : Int) ≠ 0)
  have h2 := Int.emod_lt_of_pos n (by omega : (0 : Int) < sg.length)
  have h4 : (n % sg.length).toNat < sg.length := by omega
  have := atI_nat (List.getElem?_eq_getElem h4)
  rw [show (((n % sg.length).toNat : Nat) : Int) = n % sg.length by omega] at this
  rw [this, List.getD_eq_getElem?_getD, List.getElem?_eq_getElem h4]; rfl
section
variable {P : Program} {w : World} {K : PySem.W.Frag} {mg : Str → Option Value} {base : Heap}
theorem ok_law_row (T : Txt K mg) : Has P w K mg base 1 "_law_row" ["_law_cell_here", "_law_wide", "_law_signs_here", "_law_free"] row07S := by
  refine Has.of T.f_law_row sc_law_row (fun A Q R ⟨c, m, sg, fr, e, _⟩ => by rw [e]; rfl) fun f cdv A outer s0 H E hr Γ Q R ⟨c, wd, sg, fr, e, hw, hs0, hs1, hq⟩ => ?_
  subst e
  refine st_set 4 (x := c) (ev_var 0) ?_ sc_law_row.nd
  have go : ∀ c0 : Int, c0 = (if fr = true then c else c % 2147483647) → Tw.ST (cxOf (L2.CX P w) P w K mg base N_law_row "_law_row" (defScope s_law_row) f cdv A outer s0 H E).nox ((defBody s_law_row).drop 2) [vl c, vl (wd : Int), vl sg, vl fr, vl c0, .no, .no] (fin Q) := fun c0 ec => by
    refine st_set 5 (x := ([] : Tx)) (ev_str "") ?_ sc_law_row.nd
    refine st_for (xs := rng 0 ((wd : Int)).toNat) (fun k Γ => Le Γ [vl c, vl (wd : Int), vl sg, vl fr, vl (rowSt07 sg fr c0 k).1, vl (rowSt07 sg fr c0 k).2, .no]) (src_range T.b_range (ev_var 1) (by omega) (by omega)) (tg_name 6) Le.refl
      (fun k x Γ' hk hP => ?_) (fun Γ' hP => ?_) (pgn 6 sc_law_row.nd)
    · obtain ⟨hlt, rfl⟩ := rng_get0 hk
      refine st_le (Le.set hP 6 _) ?_
      have hl := rowSt07_len (sg := sg) (free := fr) (c := c0) k
      refine st_if (k := fr) (et_val (ev_var 3)) (fun h => ?_) (fun h => ?_)
      · subst h
        refine st_set 5 (ev_bin (o_addS (by rw [hl]; exact sl_small (by show k + 1 ≤ _; omega))) (ev_var 5) (ev_ixS (ev_var 2) (ev_bin (o_mod (by omega)) (ev_var 4) (ev_lenS T.b_len (ev_var 2) (sl_small hs1))) (ix_mod hs0 _) (sl_small hs1))) ?_ sc_law_row.nd
        refine st_set 4 (ev_bin (o_div (divS (by omega) (by omega))) (ev_var 4) (ev_lenS T.b_len (ev_var 2) (sl_small hs1))) (st_nil (st_nil ?_)) sc_law_row.nd
        show Le _ [vl c, vl (wd : Int), vl sg, vl true, vl (rowSt07 sg true c0 (k + 1)).1, vl (rowSt07 sg true c0 (k + 1)).2, .no]
        rw [rowSt07_t]
        walk_at "le"
      · subst h
        refine st_set 4 (ev_bin (o_mod (by decide)) (ev_bin o_add (ev_bin o_add (ev_bin (o_mul mulR) (ev_var 4) ev_int) (ev_bin (o_mul (x := (k : Int)) (y := (k : Int)) (.inl (by omega))) (ev_var 6) (ev_var 6))) ev_int) ev_int) ?_ sc_law_row.nd
        refine st_set 5 (ev_bin (o_addS (by rw [hl]; exact sl_small (by show k + 1 ≤ _; omega))) (ev_var 5) (ev_ixS (ev_var 2) (ev_bin (o_mod (by omega)) (ev_bin (o_div divK) (ev_var 4) ev_int) (ev_lenS T.b_len (ev_var 2) (sl_small hs1))) (ix_mod hs0 _) (sl_small hs1))) (st_nil (st_nil ?_)) sc_law_row.nd
        show Le _ [vl c, vl (wd : Int), vl sg, vl false, vl (rowSt07 sg false c0 (k + 1)).1, vl (rowSt07 sg false c0 (k + 1)).2, .no]
        rw [rowSt07_f]
        walk_at "le"
    · refine st_le hP (st_retV (ev_var 5) ?_)
      rw [rng_len]
      unfold lawRow07 at hq
      rw [← ec] at hq
      exact hq
  refine st_if (k := !fr) (et_not (et_val (ev_var 3))) (fun h => ?_) (fun h => st_nil ?_)
  · refine st_set 4 (ev_bin (o_mod (by decide)) (ev_var 0) ev_int) (st_nil (go _ ?_)) sc_law_row.nd
    cases fr
    · rfl
    · exact nomatch h
  · refine go c ?_
    cases fr
    · exact nomatch h
    · rfl
theorem ok_law_picture (T : Txt K mg) : Has P w K mg base 2 "_law_picture" ["_law_script", "_law_at", "_law_rows", "_law_wide", "_law_signs_here"] pic07S := by
  refine Has.of T.f_law_picture sc_law_picture (fun A Q R ⟨s, a, r, wd, sg, e, _⟩ => by rw [e]; rfl) fun f cdv A outer s0 H E hr Γ Q R ⟨s, a, r, wd, sg, e, hl, ha, hr1, hw, hs0, hs1, hq⟩ => ?_
  subst e
  refine st_set 5 (x := decide (lawCell s.l 1 / 128 % 2 = 1)) (ev_cmp o_eq (ev_bin (o_mod (by decide)) (ev_bin (o_div divK) (ev_call (x := lawCell s.l 1) (ok_law_cell T) (hr.mono (by decide)) (ea_cons (ev_var 0) (ea_cons (x := (1 : Int)) ev_int ea_nil)) fun P R h => ⟨s, 1, rfl, hl, by decide, h⟩) ev_int) ev_int) ev_int) ?_ sc_law_picture.nd
  refine st_retE (en_lc (α := Int) (β := Tx) (own := [("_law_k", 6)]) (xs := rng 0 ((r : Int)).toNat) (f := fun k => lawRow07 (lawCell s.l (a + k)) wd sg (decide (lawCell s.l 1 / 128 % 2 = 1))) (src_range T.b_range (ev_var 2) (by omega) (by omega)) (tg_name 6) (fun _ _ _ _ _ => pgn 6 sc_law_picture.nd)
    (fun x hx _ _ _ _ _ => ev_call (ok_law_row T) (hr.mono (by decide)) (ea_cons (ev_call (ok_law_cell T) (hr.mono (by decide)) (ea_cons (ev_var 0) (ea_cons (ev_bin o_add (ev_var 1) (ev_var 6)) ea_nil)) fun P R h => ⟨_, _, rfl, hl, ?_, h⟩) (ea_cons (ev_var 3) (ea_cons (ev_var 4) (ea_cons (ev_var 5) ea_nil)))) fun P R h => ⟨_, _, _, _, rfl, hw, hs0, hs1, h⟩) sc_law_picture.nd (ok := bk_law_picture (by decide +kernel)) (hz := ?_)) ?_
  · obtain ⟨k, _, rfl⟩ := rng_mem hx
    omega
  · rw [rng_len]; exact sl_small (by omega)
  · exact hq
end
local macro_rules | `(tactic| walk_at "le") => `(tactic| repeat (first | exact le_nil | refine le_cons ?_ | refine le_no ?_))
theorem windows_mem {r c t l b q : Nat} (h1 : t < b) (h2 : b ≤ r) (h3 : l < q) (h4 : q ≤ c) : win t l b q ∈ windows r c := by
  unfold windows winL winB winR
  refine List.mem_flatMap.mpr ⟨t, List.mem_range.mpr (by omega), List.mem_flatMap.mpr ⟨l, List.mem_range.mpr (by omega), List.mem_flatMap.mpr ⟨b - (t + 1), List.mem_range.mpr (by omega), List.mem_map.mpr ⟨q - (l + 1), List.mem_range.mpr (by omega), ?_⟩⟩⟩⟩
  rw [show t + 1 + (b - (t + 1)) = b by omega, show l + 1 + (q - (l + 1)) = q by omega]
noncomputable def f8 (p : Pic) (t b l q : Nat) : List (Tup Tx) := (List.range 8).map fun m => Tup.mk (turned (cutOut p t l b q) m)
noncomputable def fQ (p : Pic) (c t b l : Nat) : List (Tup Tx) := (List.range (c - l)).flatMap fun k => f8 p t b l (l + 1 + k)
noncomputable def fL (p : Pic) (c t b : Nat) : List (Tup Tx) := (List.range c).flatMap fun l => fQ p c t b l
noncomputable def fB (p : Pic) (r c t : Nat) : List (Tup Tx) := (List.range (r - t)).flatMap fun k => fL p c t (t + 1 + k)
noncomputable def fT (p : Pic) (r c : Nat) : List (Tup Tx) := (List.range r).flatMap fun t => fB p r c t
theorem f8_len {p : Pic} {t b l q : Nat} : (f8 p t b l q).length = 8 := by unfold f8; simp
theorem fQ_pre {p : Pic} {c t b l : Nat} (n : Nat) : ((List.range n).flatMap fun k => f8 p t b l (l + 1 + k)).length ≤ n * 8 := by
  have := flat_len (List.range n) (fun k => f8 p t b l (l + 1 + k)) 8 fun x _ => by rw [f8_len]; exact Nat.le_refl _
  rwa [List.length_range] at this
theorem fQ_len {p : Pic} {c t b l : Nat} (hc : c ≤ 6) : (fQ p c t b l).length ≤ 48 := Nat.le_trans (fQ_pre (c := c) (c - l)) (by omega)
theorem fL_pre {p : Pic} {c t b : Nat} (hc : c ≤ 6) (n : Nat) : ((List.range n).flatMap fun l => fQ p c t b l).length ≤ n * 48 := by
  have := flat_len (List.range n) (fun l => fQ p c t b l) 48 fun x _ => fQ_len hc
  rwa [List.length_range] at this
theorem fL_len {p : Pic} {c t b : Nat} (hc : c ≤ 6) : (fL p c t b).length ≤ 288 := Nat.le_trans (fL_pre hc c) (by omega)
theorem fB_pre {p : Pic} {c t : Nat} (hc : c ≤ 6) (n : Nat) : ((List.range n).flatMap fun k => fL p c t (t + 1 + k)).length ≤ n * 288 := by
  have := flat_len (List.range n) (fun k => fL p c t (t + 1 + k)) 288 fun x _ => fL_len hc
  rwa [List.length_range] at this
theorem fB_len {p : Pic} {r c t : Nat} (hr : r ≤ 6) (hc : c ≤ 6) : (fB p r c t).length ≤ 1728 := Nat.le_trans (fB_pre hc (r - t)) (by omega)
theorem fT_pre {p : Pic} {r c : Nat} (hr : r ≤ 6) (hc : c ≤ 6) (n : Nat) : ((List.range n).flatMap fun t => fB p r c t).length ≤ n * 1728 := by
  have := flat_len (List.range n) (fun t => fB p r c t) 1728 fun x _ => fB_len hr hc
  rwa [List.length_range] at this
noncomputable def lenT (r c : Nat) : Nat := ((List.range r).map fun t => ((List.range (r - t)).map fun _ => ((List.range c).map fun l => ((List.range (c - l)).map fun _ => 8).sum).sum).sum).sum
theorem fT_len (p : Pic) (r c : Nat) : (fT p r c).length = lenT r c := by
  unfold fT fB fL fQ lenT
  simp only [List.length_flatMap, f8_len]
theorem lenT_few : ∀ r < 7, ∀ c < 7, (r ≤ 4 ∧ c ≤ 4) ∨ r ≤ 2 → lenT r c ≤ 1000 := by decide +kernel
theorem fT_mem {p : Pic} {r c : Nat} {y : Tup Tx} : y ∈ fT p r c ↔ y.l ∈ seenAll p r c := by
  rw [seenAll_mem]
  unfold fT fB fL fQ f8
  constructor
  · intro h
    obtain ⟨t, ht, h⟩ := List.mem_flatMap.mp h
    obtain ⟨k, hk, h⟩ := List.mem_flatMap.mp h
    obtain ⟨l, hl, h⟩ := List.mem_flatMap.mp h
    obtain ⟨q, hq, h⟩ := List.mem_flatMap.mp h
    obtain ⟨m, hm, rfl⟩ := List.mem_map.mp h
    have ht := List.mem_range.mp ht
    have hk := List.mem_range.mp hk
    have hl := List.mem_range.mp hl
    have hq := List.mem_range.mp hq
    exact ⟨win t l (t + 1 + k) (l + 1 + q), windows_mem (by omega) (by omega) (by omega) (by omega), m, List.mem_range.mp hm, rfl⟩
  · rintro ⟨x, hx, m, hm, e⟩
    obtain ⟨t, l, b, q, rfl, h1, h2, h3, h4⟩ := mem_windows hx
    refine List.mem_flatMap.mpr ⟨t, List.mem_range.mpr (by omega), List.mem_flatMap.mpr ⟨b - (t + 1), List.mem_range.mpr (by omega), List.mem_flatMap.mpr ⟨l, List.mem_range.mpr (by omega), List.mem_flatMap.mpr ⟨q - (l + 1), List.mem_range.mpr (by omega), List.mem_map.mpr ⟨m, List.mem_range.mpr hm, ?_⟩⟩⟩⟩⟩
    rw [show t + 1 + (b - (t + 1)) = b by omega, show l + 1 + (q - (l + 1)) = q by omega]
    exact tup_ext e.symm
noncomputable def sLt (a b : Pic) : Prop := cellsOf a < cellsOf b ∨ (cellsOf a = cellsOf b ∧ a < b)
noncomputable instance : DecidableRel sLt := fun a b => inferInstanceAs (Decidable (_ ∨ (_ ∧ _)))
theorem pys_txt : ∀ p : Pic, Dy.pys (p.map Dy.s) = (p.map sx).map PyData.str
  | [] => by simp [Dy.pys]
  | x :: p => by
    show Dy.pys (Dy.s x :: p.map Dy.s) = _
    rw [Dy.pys, Dy.py, pys_txt p]
    rfl
theorem map_tl_sx (p : Pic) : (p.map sx).map tl = p := by
  rw [List.map_map]
  exact List.map_id' _
theorem seenLt (a b : Pic) : PySem.W.dataLt ((IsD.d (kSeen a) : Dy)).py ((IsD.d (kSeen b) : Dy)).py = decide (sLt a b) := by
  have h2 : PySem.W.dataLt (.list (Dy.pys (a.map Dy.s))) (.list (Dy.pys (b.map Dy.s))) = decide (a < b) := by
    rw [PySem.W.dataLt_list, pys_txt, pys_txt]
    have := txt_lt (a.map sx) (b.map sx)
    rw [map_tl_sx, map_tl_sx] at this
    exact this
  have e2 : PyData.eqv (.list (Dy.pys (a.map Dy.s))) (.list (Dy.pys (b.map Dy.s))) = true → a = b := fun h => by
    have h : PyData.eqv (Dy.l (a.map Dy.s)).py (Dy.l (b.map Dy.s)).py = true := by rw [Dy.py, Dy.py]; exact h
    have h := (Dy.py_eqv _ _).mp h
    have h := Dy.l.inj h
    exact List.map_inj_right (fun a b e => Dy.s.inj e) |>.mp h
  rw [kSeen_py, kSeen_py, PySem.W.dataLt_pair (by simp [PySem.W.alike]) (by rw [PySem.W.alike]; exact alike_strs _ _), h2, PySem.W.dataLt_int]
  have iff : sLt a b ↔ (cellsOf a < cellsOf b ∨ (cellsOf a = cellsOf b ∧ a < b)) := Iff.rfl
  by_cases hc : cellsOf a = cellsOf b
  · rw [if_pos (by simp [PyData.eqv, hc])]
    split
    · rename_i h
      have e := e2 h
      have no : ¬ sLt a b := by
        rw [iff]
        rintro (z | z)
        · omega
        · rw [e] at z; exact List.lt_irrefl _ z.2
      exact (decide_eq_false no).symm
    · refine decide_eq_decide.mpr ?_
      rw [iff]
      constructor
      · intro h; exact .inr ⟨hc, h⟩
      · rintro (z | z)
        · omega
        · exact z.2
  · rw [if_neg (by simp [PyData.eqv, hc])]
    refine decide_eq_decide.mpr ?_
    rw [iff]
    constructor
    · intro h; exact .inl h
    · rintro (z | z)
      · exact z
      · exact absurd z.1 hc
theorem seenLe : (PySem.W.dataLe false fun x : Pic => ((IsD.d (kSeen x) : Dy)).py) = fun a b => !decide (sLt b a) := by
  rw [PySem.W.dataLe_eq]
  funext a b
  show (!PySem.W.dataLt _ _) = _
  rw [seenLt]
theorem seen_same {l m : List Pic} (nl : l.Nodup) (nm : m.Nodup) (h : ∀ x, x ∈ l ↔ x ∈ m) : l.mergeSort (PySem.W.dataLe false fun x : Pic => ((IsD.d (kSeen x) : Dy)).py) = m.mergeSort (PySem.W.dataLe false fun x : Pic => ((IsD.d (kSeen x) : Dy)).py) := by
  rw [seenLe]
  refine sort_same (lt := sLt) (fun a h => ?_) (fun a b c h1 h2 => ?_) (fun a b => ?_) nl nm h
  · rcases h with h | h
    · omega
    · exact List.lt_irrefl _ h.2
  · unfold sLt at *
    rcases h1 with h1 | h1 <;> rcases h2 with h2 | h2
    · exact .inl (by omega)
    · exact .inl (by omega)
    · exact .inl (by omega)
    · exact .inr ⟨by omega, List.lt_trans h1.2 h2.2⟩
  · unfold sLt
    rcases Int.lt_trichotomy (cellsOf a) (cellsOf b) with z | z | z
    · exact .inl (.inl z)
    · rcases pic_tri a b with y | y | y
      · exact .inl (.inr ⟨z, y⟩)
      · exact .inr (.inl y)
      · exact .inr (.inr (.inr ⟨z.symm, y⟩))
    · exact .inr (.inr (.inl z))
noncomputable def keys07 (p : Pic) (r c : Nat) : List (Tup Tx) := (keyed (seenAll p r c)).map (·.1)
theorem keys07_nd (p : Pic) (r c : Nat) : (keys07 p r c).Nodup := (keyed_ok _).nd
theorem keys07_mem {p : Pic} {r c : Nat} {y : Tup Tx} : y ∈ keys07 p r c ↔ y ∈ fT p r c := by
  rw [fT_mem, ← (keyed_ok (seenAll p r c)).mem]
  unfold keys07
  constructor
  · intro h
    obtain ⟨x, hx, rfl⟩ := List.mem_map.mp h
    exact List.mem_map.mpr ⟨x, hx, ((keyed_ok _).key x hx).symm⟩
  · intro h
    obtain ⟨x, hx, e⟩ := List.mem_map.mp h
    exact List.mem_map.mpr ⟨x, hx, tup_ext (((keyed_ok _).key x hx).trans e)⟩
noncomputable def rising07 (p : Pic) (r c : Nat) : List (Int × Pic) := ((keys07 p r c).mergeSort rowLe).map fun y => kSeen y.l
theorem due_is (p : Pic) (r c : Nat) : ((rising07 p r c).mergeSort (PySem.W.dataLe false fun x => ((IsD.d x : Dy)).py)).map (·.2) = seenL p r c := by
  have e1 : rising07 p r c = (((keys07 p r c).mergeSort rowLe).map (·.l)).map kSeen := by
    unfold rising07
    rw [List.map_map]
    rfl
  rw [e1, ← List.map_mergeSort (r := PySem.W.dataLe false fun x : Pic => ((IsD.d (kSeen x) : Dy)).py) (s := PySem.W.dataLe false fun x => ((IsD.d x : Dy)).py) (f := kSeen) (fun a _ b _ => rfl), List.map_map]
  have e2 : ((·.2) ∘ kSeen : Pic → Pic) = id := rfl
  rw [e2, List.map_id]
  unfold seenL
  refine seen_same (List.pairwise_map.mpr (((List.mergeSort_perm _ _).nodup_iff.mpr (keys07_nd p r c)).imp fun {a b} ne e => ne (tup_ext e))) (keyed_vals_nodup _) fun x => ?_
  rw [(keyed_ok (seenAll p r c)).mem]
  constructor
  · intro h
    obtain ⟨y, hy, rfl⟩ := List.mem_map.mp h
    exact fT_mem.mp (keys07_mem.mp ((List.mergeSort_perm _ _).mem_iff.mp hy))
  · intro h
    exact List.mem_map.mpr ⟨⟨x⟩, (List.mergeSort_perm _ _).mem_iff.mpr (keys07_mem.mpr (fT_mem.mpr h)), rfl⟩
section
open PySem.W PySem.Calls
noncomputable def rSLD (X : Cx) {β : Type} (k : β → PyData) : List V → Hp → VK → Prop := fun xs H Q => ∃ (p : Addr) (ws : List V) (bs : List β) (Rb : V → β → Prop), xs = [V.ref p] ∧ H p = some (.lst ws) ∧ Paired Rb ws bs ∧ (∀ v x, Rb v x → Dp X.K H v (k x)) ∧ AllAlike (bs.map k) ∧ Sortable (bs.map k) ∧ (∀ x ∈ bs, (k x).depth ≤ 64) ∧
  ∀ (vs : List V) (T : Addr), Paired Rb vs (bs.mergeSort (dataLe false k)) → H T = none → Q (.ref T) (upd H T (.lst vs))
theorem cr_sortLD {X : Cx} {β : Type} (k : β → PyData) (hu : X.A.units + 100 < cLine) : CallR X (.builtin "sorted") (rSLD X k) := by
  intro pins s σ H xs us Q I r h
  obtain ⟨p, ws, bs, Rb, rfl, hp, pb, hdp, hal, hsk, hdep, q⟩ := h
  rw [Vals.ref1 r]
  obtain ⟨hz, its, c, rv, hg⟩ := (show ObjOk X.prog X.w H s.heap p (.lst ws) from I.hok p _ hp)
  have hE := vals_each rv pb
  have hl1 : its.length = bs.length := hE.length
  have hl2 : ws.length = its.length := Paired.length rv
  have er : EachIs (fun v b => ∃ as, Reads s.heap v (k b) as) its bs := hE.mono fun u x ⟨v, rv, rb⟩ => Dp.reads I _ _ _ (hdp v x rb) rv
  refine sorted_data (PySem.IsL.isList hg) hE er hal hsk (by omega) (fun b hb => by have := hdep b hb; omega) fun out hol hout => ?_
  obtain ⟨ep, he'⟩ := PyProof.Rows.sortedAll_at s.heap its (List.toArray out)
  obtain ⟨vs', rv', pr⟩ := each_vals hout
  have hlen : vs'.length ≤ sizeLine := by
    rw [Paired.length rv', hol]; omega
  exact ⟨.ref _, upd H (s.heap.objs.size + 1) (.lst vs'), I.laid (t' := s.toks) (fun _ _ => PyProof.Rows.sortedAll_old) (Nat.le_succ _) ⟨hlen, out, ep, rv', he'⟩, rfl, q vs' _ pr (I.hok.fresh (Nat.le_succ _))⟩
end
section
variable {X : Cx} {Γ : List Slot} {α : Type} {i : Rep α} {pos p : Pos} {e : Expr}
theorem en_sortedA {k : Nat} {xs : List α} [h2 : IsD α] (hm : X.mg "sorted" = none) (hr : Room k X.A) (h : EV X Γ e xs) (hal : PySem.W.AllAlike (xs.map fun x => (h2.d x).py)) (hsk : PySem.W.Sortable (xs.map fun x => (h2.d x).py)) (hdp : ∀ x ∈ xs, ((h2.d x).py).depth ≤ 64)
    (hg : autoParam (Gl X "sorted") aRfl) (hs : autoParam (starEach [e] X.env = (false, eval e X.env) :: starEach [] X.env) aStar) (hpl : autoParam ((backTo pos (starEach [] X.env)).any (·.1) = false) aPl) :
    EN X Γ (.Call (.Name "sorted" p) [e] [] pos) (xs.mergeSort (PySem.W.dataLe false fun x => (h2.d x).py)) := fun B F H σ Q L q =>
  WE.of (pe_callB (cr_sortLD (fun x => (h2.d x).py) (by have := hr.un; omega)) hg hm (by decide +kernel) (pa_cons peW pa_nil hs) (by decide) (by decide) hs hpl) (h B F H σ _ L fun v F1 H1 e1 r1 => by
    obtain ⟨ad, vs, rfl, ha, pr⟩ := r1
    have s1 := (L.step e1).same
    refine ⟨ad, vs, xs, fun v x => i.rp X.K F1 v x, rfl, s1 _ _ ha, pr, fun v x rb => rpD_dp _ _ (rpD_mono s1 _ _ (h2.iff.mp rb)), hal, hsk, hdp, fun ws T pv hT => ?_⟩
    exact q T ws F1 _ (e1.trans (Ext.apart s1 hT)) (e1.hs.free hT) (s1.free hT) upd_same pv)
end
local macro_rules | `(tactic| walk_at "le") => `(tactic| repeat (first | exact le_nil | refine le_cons ?_ | refine le_no ?_))
noncomputable def due07S : Tw.Spec := fun A P _ => ∃ (p : Pic) (r c : Nat), A = [vl p] ∧ Pk p r c ∧ ((r ≤ 4 ∧ c ≤ 4) ∨ r ≤ 2) ∧ P (rn (seenL p r c))
noncomputable def good07S : Tw.Spec := fun A P _ => ∃ (l : List Pic), A = [vl l, vl l] ∧ l.length ≤ 20000 ∧ (∀ x ∈ l, x.length ≤ 6 ∧ PicOk x) ∧ P (rv true)
noncomputable abbrev lsT (a : Addr) (xs : List (Tup Tx)) : Slot := .lst (repTup : Rep (Tup Tx)) a xs
section
variable {P : Program} {w : World} {K : PySem.W.Frag} {mg : Str → Option Value} {base : Heap}
theorem ok_law_due (T : Txt K mg) : Has P w K mg base 5 "_law_due" ["_law_picture_here"] due07S := by
  refine Has.of T.f_law_due sc_law_due (fun A Q R ⟨p, r, c, e, _⟩ => by rw [e]; rfl) fun f cdv A outer s0 H E hr Γ Q R ⟨p, r, c, e, hp, hrc, hq⟩ => ?_
  subst e
  have hr6 := hp.r6
  have hc6 := hp.c6
  obtain ⟨hp0, hp1⟩ := hp.head
  have hlen : (p.length : Int) = (r : Int) := by rw [hp.len]
  have hwid : ((p.headD []).length : Int) = (c : Int) := by rw [hp1]
  refine st_setN 1 (en_nil (Tup Tx)) (fun ad => ?_) sc_law_due.nd
  refine st_for (xs := rng 0 (r : Int).toNat) (fun k Γ => Le Γ [vl p, lsT ad ((List.range k).flatMap fun t => fB p r c t), .no, .no, .no, .no, .no, .no, .no, .no, .no, .no]) (src_range T.b_range (ev_eq (ev_len T.b_len (ev_var (x := p) 0)) hlen) (by omega) (by omega)) (tg_name 2) (by walk_at "le")
    (fun t x Γ1 hk1 hP1 => ?_) (fun Γ1 hP1 => ?_) (pgn 2 sc_law_due.nd)
  · obtain ⟨ht, rfl⟩ := rng_get0 hk1
    have ht' : t < r := by omega
    refine st_le (Le.set hP1 2 _) ?_
    have n1 := fT_pre (p := p) (r := r) (c := c) hr6 hc6 t
    generalize hf1 : ((List.range t).flatMap fun t => fB p r c t) = f1 at n1
    refine st_for (xs := rng ((t : Int) + 1) ((r : Int) + 1 - ((t : Int) + 1)).toNat) (fun k Γ => Le Γ [vl p, lsT ad (f1 ++ (List.range k).flatMap fun k => fL p c t (t + 1 + k)), vl (t : Int), .no, .no, .no, .no, .no, .no, .no, .no, .no]) (src_range2 T.b_range (ev_bin o_add (ev_var 2) ev_int) (ev_bin o_add (ev_eq (ev_len T.b_len (ev_var (x := p) 0)) hlen) ev_int) (by omega)) (tg_name 3) (by
        show Le _ [vl p, lsT ad (f1 ++ []), vl (t : Int), .no, .no, .no, .no, .no, .no, .no, .no, .no]
        rw [List.append_nil]; walk_at "le")
      (fun b x Γ2 hk2 hP2 => ?_) (fun Γ2 hP2 => st_nil ?_) (pgn 3 sc_law_due.nd)
    rotate_left
    · rw [rng_len] at hP2
      refine hP2.trans ?_
      show Le _ [vl p, lsT ad ((List.range (t + 1)).flatMap fun t => fB p r c t), .no, .no, .no, .no, .no, .no, .no, .no, .no, .no]
      rw [range_flat, hf1]
      unfold fB
      rw [show ((r : Int) + 1 - ((t : Int) + 1)).toNat = r - t by omega]
      walk_at "le"
    obtain ⟨hb, rfl⟩ := rng_get hk2
    refine st_le (Le.set hP2 3 _) ?_
    have n2 := fB_pre (p := p) (c := c) (t := t) hc6 b
    generalize hf2 : ((List.range b).flatMap fun k => fL p c t (t + 1 + k)) = f2 at n2
    have hbr : t + 1 + b ≤ r := by omega
    have eb : (t : Int) + 1 + (b : Int) = ((t + 1 + b : Nat) : Int) := by omega
    rw [eb]
    generalize hbb : t + 1 + b = bb at hbr
    refine st_for (xs := rng 0 (c : Int).toNat) (fun k Γ => Le Γ [vl p, lsT ad (f1 ++ (f2 ++ (List.range k).flatMap fun l => fQ p c t bb l)), vl (t : Int), vl (bb : Int), .no, .no, .no, .no, .no, .no, .no, .no]) (src_range T.b_range (ev_eq (ev_lenS T.b_len (ev_ixL (ev_var 0) ev_int hp0) (sl6 (by rw [hp1]; exact hc6))) hwid) (by omega) (by omega)) (tg_name 4) (by
        show Le _ [vl p, lsT ad (f1 ++ (f2 ++ [])), vl (t : Int), vl (bb : Int), .no, .no, .no, .no, .no, .no, .no, .no]
        rw [List.append_nil]; walk_at "le")
      (fun l x Γ3 hk3 hP3 => ?_) (fun Γ3 hP3 => st_nil ?_) (pgn 4 sc_law_due.nd)
    rotate_left
    · rw [rng_len] at hP3
      refine hP3.trans ?_
      show Le _ [vl p, lsT ad (f1 ++ ((List.range (b + 1)).flatMap fun k => fL p c t (t + 1 + k))), vl (t : Int), .no, .no, .no, .no, .no, .no, .no, .no, .no]
      rw [range_flat, hf2, hbb]
      unfold fL
      walk_at "le"
    obtain ⟨hl, rfl⟩ := rng_get0 hk3
    have hl' : l < c := by omega
    refine st_le (Le.set hP3 4 _) ?_
    have n3 := fL_pre (p := p) (c := c) (t := t) (b := bb) hc6 l
    generalize hf3 : ((List.range l).flatMap fun l => fQ p c t bb l) = f3 at n3
    refine st_for (xs := rng ((l : Int) + 1) ((c : Int) + 1 - ((l : Int) + 1)).toNat) (fun k Γ => Le Γ [vl p, lsT ad (f1 ++ (f2 ++ (f3 ++ (List.range k).flatMap fun k => f8 p t bb l (l + 1 + k)))), vl (t : Int), vl (bb : Int), vl (l : Int), .no, .no, .no, .no, .no, .no, .no]) (src_range2 T.b_range (ev_bin o_add (ev_var 4) ev_int) (ev_bin o_add (ev_eq (ev_lenS T.b_len (ev_ixL (ev_var 0) ev_int hp0) (sl6 (by rw [hp1]; exact hc6))) hwid) ev_int) (by omega)) (tg_name 5) (by
        show Le _ [vl p, lsT ad (f1 ++ (f2 ++ (f3 ++ []))), vl (t : Int), vl (bb : Int), vl (l : Int), .no, .no, .no, .no, .no, .no, .no]
        rw [List.append_nil]; walk_at "le")
      (fun q x Γ4 hk4 hP4 => ?_) (fun Γ4 hP4 => st_nil ?_) (pgn 5 sc_law_due.nd)
    rotate_left
    · rw [rng_len] at hP4
      refine hP4.trans ?_
      show Le _ [vl p, lsT ad (f1 ++ (f2 ++ ((List.range (l + 1)).flatMap fun l => fQ p c t bb l))), vl (t : Int), vl (bb : Int), .no, .no, .no, .no, .no, .no, .no, .no]
      rw [range_flat, hf3]
      unfold fQ
      rw [show ((c : Int) + 1 - ((l : Int) + 1)).toNat = c - l by omega]
      walk_at "le"
    obtain ⟨hqq, rfl⟩ := rng_get hk4
    refine st_le (Le.set hP4 5 _) ?_
    have n4 := fQ_pre (p := p) (c := c) (t := t) (b := bb) (l := l) q
    generalize hf4 : ((List.range q).flatMap fun k => f8 p t bb l (l + 1 + k)) = f4 at n4
    have hqr : l + 1 + q ≤ c := by omega
    have eq' : (l : Int) + 1 + (q : Int) = ((l + 1 + q : Nat) : Int) := by omega
    rw [eq']
    generalize hqb : l + 1 + q = qq at hqr
    have htb : t < bb := by omega
    have hlq : l < qq := by omega
    have e1 : cutL p (some (t : Int)) (some (bb : Int)) = (p.drop t).take (bb - t) := cutL_nat (by rw [hp.len]; exact hbr) (by omega)
    refine st_setLc 6 (α := Tx) (β := Tx) (own := [("_law_row_here", 9)]) (xs := (p.drop t).take (bb - t)) (f := fun row => (row.drop l).take (qq - l)) (src_list (ev_of_en (en_eq (en_sliceL (o1 := some (t : Int)) (o2 := some (bb : Int)) (ev_var 0) (ev_var 2) (ev_var 3)) e1))) (tg_name 9) (fun _ _ _ _ _ => pgn 9 sc_law_due.nd)
      (fun x hx _ _ _ _ _ => ev_eq (ev_sliceS (o1 := some (l : Int)) (o2 := some (qq : Int)) (ev_var 9) (ev_var 4) (ev_var 5) (by rw [hp.row x (List.mem_of_mem_drop (List.mem_of_mem_take hx))]; exact sl6 hc6)) (cutL_nat (by rw [hp.row x (List.mem_of_mem_drop (List.mem_of_mem_take hx))]; exact hqr) (by omega))) sc_law_due.nd (by rw [List.length_take, List.length_drop, hp.len]; exact sl6 (by omega)) (fun a6 => ?_) (ok := bk_law_due (by decide +kernel))
    refine st_freeze 6 (x := cutOut p t l bb qq) frozL ?_
    have hcut := hp.cut htb hbr hlq hqr
    refine st_for (xs := rng 0 (8 : Int).toNat) (fun k Γ => Le Γ [vl p, lsT ad (f1 ++ (f2 ++ (f3 ++ (f4 ++ (List.range k).map fun m => Tup.mk (turned (cutOut p t l bb qq) m))))), vl (t : Int), vl (bb : Int), vl (l : Int), vl (qq : Int), vl (cutOut p t l bb qq), .no, .no, .no, .no, .no]) (src_range T.b_range ev_int (by decide) (by decide)) (tg_name 7) (by
        show Le _ [vl p, lsT ad (f1 ++ (f2 ++ (f3 ++ (f4 ++ [])))), vl (t : Int), vl (bb : Int), vl (l : Int), vl (qq : Int), vl (cutOut p t l bb qq), .no, .no, .no, .no, .no]
        rw [List.append_nil]; walk_at "le")
      (fun m x Γ5 hk5 hP5 => ?_) (fun Γ5 hP5 => st_nil ?_) (pgn 7 sc_law_due.nd)
    · obtain ⟨hm, rfl⟩ := rng_get0 hk5
      have hm8 : m < 8 := by simpa using hm
      refine st_le (Le.set hP5 7 _) ?_
      refine st_append 1 (x := Tup.mk (turned (cutOut p t l bb qq) m)) (ev_tupL T.b_tuple (ev_call (x := turned (cutOut p t l bb qq) m) (ok_law_turned T) (hr.mono (by decide)) (ea_cons (ev_var 6) (ea_cons (ev_var 7) ea_nil)) fun P R h => ⟨_, _, _, (m : Int), rfl, hcut, by omega, by rw [Int.toNat_natCast]; exact h⟩)) (st_nil ?_) ?_
      · show Le _ [vl p, lsT ad (f1 ++ (f2 ++ (f3 ++ (f4 ++ (List.range (m + 1)).map fun m => Tup.mk (turned (cutOut p t l bb qq) m))))), vl (t : Int), vl (bb : Int), vl (l : Int), vl (qq : Int), vl (cutOut p t l bb qq), .no, .no, .no, .no, .no]
        have e5 : ∀ (x : Tup Tx) (A : List (Tup Tx)), f1 ++ (f2 ++ (f3 ++ (f4 ++ (A ++ [x])))) = (f1 ++ (f2 ++ (f3 ++ (f4 ++ A)))) ++ [x] := fun x A => by simp only [List.append_assoc]
        rw [List.range_succ, List.map_append, List.map_singleton, e5]
        walk_at "le"
      · simp only [List.length_append, List.length_map, List.length_range]
        exact Nat.lt_of_le_of_lt (show _ ≤ 20000 by omega) (by decide)
    · rw [rng_len] at hP5
      refine hP5.trans ?_
      show Le _ [vl p, lsT ad (f1 ++ (f2 ++ (f3 ++ ((List.range (q + 1)).flatMap fun k => f8 p t bb l (l + 1 + k))))), vl (t : Int), vl (bb : Int), vl (l : Int), .no, .no, .no, .no, .no, .no, .no]
      rw [range_flat, hf4, hqb]
      unfold f8
      walk_at "le"
  · rw [rng_len] at hP1
    have hP1 : Le Γ1 [vl p, lsT ad (fT p r c), .no, .no, .no, .no, .no, .no, .no, .no, .no, .no] := hP1
    refine st_le hP1 ?_
    refine st_freeze 1 (x := fT p r c) frozL ?_
    have few : (fT p r c).length ≤ 1000 := by rw [fT_len]; exact lenT_few r (by omega) c (by omega) (by omega)
    have pk : ∀ y ∈ (keys07 p r c).mergeSort rowLe, ∃ r' c', Pk y.l r' c' := fun y hy => seen_pk hp (fT_mem.mp (keys07_mem.mp ((List.mergeSort_perm _ _).mem_iff.mp hy)))
    have ln : ((keys07 p r c).mergeSort rowLe).length ≤ 20000 := by
      rw [List.length_mergeSort]
      unfold keys07
      rw [List.length_map]
      have h1 := keyed_len (seenAll p r c)
      have h2 := seenAll_len (p := p) hr6 hc6
      omega
    refine st_set 8 (x := (rising07 p r c).mergeSort (PySem.W.dataLe false fun x => ((IsD.d x : Dy)).py)) (ev_of_en (en_sortedA (k := 1) T.b_sorted (hr.mono (by decide)) (ev_of_en (en_lc (α := Tup Tx) (β := Int × Pic) (own := [("_law_rows", 10)]) (f := fun y => kSeen y.l) (src_list (ev_of_en (en_sortedSet (k := 1) (keys07 p r c) (hr.mono (by decide)) (ev_var (x := fT p r c) 1) (keys07_nd p r c) (fun y => keys07_mem) (fun x hx e => ?_) few T.b_sorted T.b_set))) (tg_name 10) (fun _ _ _ _ _ => pgn 10 sc_law_due.nd)
      (fun y hy _ _ _ _ _ => ?_) sc_law_due.nd (ok := bk_law_due (by decide +kernel)) (hz := Nat.le_trans ln (by decide)))) ?_ ?_ ?_)) ?_ sc_law_due.nd
    · obtain ⟨r', c', hpk⟩ := seen_pk hp (fT_mem.mp hx)
      have h1 := hpk.len
      have h2 := hpk.r0
      rw [e] at h1
      rw [List.length_nil] at h1
      omega
    · obtain ⟨r', c', hpk⟩ := pk y hy
      obtain ⟨hy0, hy1⟩ := hpk.head
      have b1 := hpk.r6
      have b2 := hpk.c6
      have b3 := hpk.len
      exact ev_pair (ev_bin (o_mul (mulR (by rw [hy1]; omega) (by rw [hy1]; omega))) (ev_lenT T.b_len (ev_var 10)) (ev_lenS T.b_len (ev_ixT (ev_var 10) ev_int hy0) (sl6 (by omega)))) (ev_of_en (en_listT T.b_list (ev_var 10)))
    · have := kSeen_alike (((keys07 p r c).mergeSort rowLe).map (·.l))
      rw [List.map_map] at this
      unfold rising07
      rw [List.map_map]
      exact this
    · have := kSeen_sortable (((keys07 p r c).mergeSort rowLe).map (·.l))
      rw [List.map_map] at this
      unfold rising07
      rw [List.map_map]
      exact this
    · intro x hx
      obtain ⟨y, hy, rfl⟩ := List.mem_map.mp hx
      exact kSeen_depth y.l
    · have e := due_is p r c
      have lr : ((rising07 p r c).mergeSort (PySem.W.dataLe false fun x => ((IsD.d x : Dy)).py)).length ≤ 20000 := by
        rw [List.length_mergeSort]
        unfold rising07
        rw [List.length_map]
        exact ln
      generalize (rising07 p r c).mergeSort (PySem.W.dataLe false fun x => ((IsD.d x : Dy)).py) = ris at e lr
      refine st_retE (en_eq (en_lc (α := Int × Pic) (β := Pic) (own := [("_law_many", 11), ("_law_rows", 10)]) (xs := ris) (f := fun x => x.2) (src_list (ev_var 8)) (tg_pair 11 10 (by decide)) (fun _ _ _ _ _ => pg2 11 10 (pgn 11 sc_law_due.nd) (pgn 10 sc_law_due.nd)) (fun x hx _ _ _ _ _ => ev_var 10) sc_law_due.nd (ok := bk_law_due (by decide +kernel)) (hz := Nat.le_trans lr (by decide))) e) hq
theorem ok_law_good (T : Txt K mg) : Has P w K mg base 2 "_law_good" ["_law_found", "_law_due_here"] good07S := by
  refine Has.of T.f_law_good sc_law_good (fun A Q R ⟨l, e, _⟩ => by rw [e]; rfl) fun f cdv A outer s0 H E hr Γ Q R ⟨l, e, hl, hp, hq⟩ => ?_
  subst e
  refine st_if (k := false) (et_eq (et_or (et_not (et_val (ev_isi (α := List Pic) "list" true T.b_isinstance T.b_list (ev_var 0)))) fun _ => et_cmp o_ne (ev_len T.b_len (ev_var (x := l) 0)) (ev_len T.b_len (ev_var (x := l) 1))) (by simp)) (fun h => nomatch h) (fun _ => st_nil ?_)
  refine st_for (xs := rng 0 ((l.length : Int)).toNat) (fun k Γ => Le Γ [vl l, vl l, .no, .no]) (src_range T.b_range (ev_len T.b_len (ev_var (x := l) 1)) (by omega) (by omega)) (tg_name 2) Le.refl
    (fun i x Γ' hk hP => ?_) (fun Γ' hP => st_le hP (st_retV ev_bl hq)) (pgn 2 sc_law_good.nd)
  obtain ⟨hlt, rfl⟩ := rng_get0 hk
  refine st_le (Le.set hP 2 _) ?_
  have hi : i < l.length := by omega
  obtain ⟨x, hx⟩ : ∃ x, l[i]? = some x := ⟨_, List.getElem?_eq_getElem hi⟩
  have hxi := atI_nat hx
  obtain ⟨hx6, hxo⟩ := hp x (List.mem_of_getElem? hx)
  refine st_if (k := false) (et_eq (et_or (k := false) (m := false) (et_eq (et_not (et_val (ev_isi (α := Pic) "list" true T.b_isinstance T.b_list (ev_ixL (xs := l) (ev_var 0) (ev_var 2) hxi)))) rfl) fun _ => et_eq (et_not (et_val (ev_all (bs := x.map fun _ => true) T.b_all (ev_of_en (en_lc (α := Tx) (β := Bool) (own := [("_law_row_here", 3)]) (f := fun _ => true) (src_list (ev_ixL (xs := l) (ev_var 0) (ev_var 2) hxi)) (tg_name 3) (fun _ _ _ _ _ => pgn 3 sc_law_good.nd) (fun y hy _ _ _ _ _ => ev_isi (α := Tx) "str" true T.b_isinstance T.b_str (ev_var 3)) sc_law_good.nd (ok := bk_law_good (by decide +kernel)) (hz := sl6 hx6)))))) (by simp)) rfl) (fun h => nomatch h) (fun _ => st_nil ?_)
  refine st_if (k := false) (et_eq (et_cmp (o_neD (α := Pic) hr hxo hxo) (ev_ixL (xs := l) (ev_var 0) (ev_var 2) hxi) (ev_ixL (xs := l) (ev_var 1) (ev_var 2) hxi)) (by simp)) (fun h => nomatch h) (fun _ => st_nil (st_nil ?_))
  show Le _ _
  walk_at "le"
end
theorem PicOk.mirrored {p : Pic} (h : PicOk p) : PicOk (mirrored p) := fun x hx => by
  obtain ⟨y, hy, rfl⟩ := List.mem_map.mp hx
  exact fun c hc => h y hy c (List.mem_reverse.mp hc)
theorem PicOk.quarter {p : Pic} (h : PicOk p) : PicOk (quarter p) := fun x hx => by
  obtain ⟨j, _, rfl⟩ := List.mem_map.mp hx
  intro c hc
  obtain ⟨row, hr, rfl⟩ := List.mem_map.mp hc
  exact getD_ok (h row (List.mem_reverse.mp hr)) j
theorem PicOk.turned {p : Pic} (h : PicOk p) (t : Nat) : PicOk (turned p t) := by
  have go : ∀ n (q : Pic), PicOk q → PicOk (quarters n q) := fun n q hq => by
    induction n with
    | zero => exact hq
    | succ n ih => exact ih.quarter
  unfold Law.turned
  refine go _ _ ?_
  split
  · exact h.mirrored
  · exact h
local macro_rules | `(tactic| walk_at "le") => `(tactic| repeat (first | exact le_nil | refine le_cons ?_ | refine le_no ?_))
section
variable {P : Program} {w : World} {K : PySem.W.Frag} {mg : Str → Option Value} {base : Heap}
theorem body_law (T : Txt K mg) : BodyOk P w K mg base 20 "law" s_law N_law ["_law_script"] lawS := by
  intro f cdv A outer s0 H E hr Γ Q R ⟨s, e, hs, hq⟩
  subst e
  refine st_set 1 (ev_bin (o_mod (by decide)) (ev_call (x := lawCell s.l 1) (ok_law_cell T) (hr.mono (by decide)) (ea_cons (ev_var 0) (ea_cons (x := (1 : Int)) ev_int ea_nil)) fun P R h => ⟨s, 1, rfl, hs, by decide, h⟩) ev_int) ?_ sc_law.nd
  have h1 := Int.emod_nonneg (lawCell s.l 1) (by decide : (16 : Int) ≠ 0)
  have h2 := Int.emod_lt_of_pos (lawCell s.l 1) (by decide : (0 : Int) < 16)
  generalize lawCell s.l 1 % 16 = size at h1 h2
  have go : ∀ (z1 z2 : Int) (rr cc : Nat), z1 = (rr : Int) → z2 = (cc : Int) → 0 < rr → 0 < cc → ((rr ≤ 4 ∧ cc ≤ 4) ∨ (rr ≤ 2 ∧ cc ≤ 6)) → Tw.ST (cxOf (L2.CX P w) P w K mg base N_law "law" (defScope s_law) f cdv A outer s0 H E).nox ((defBody s_law).drop 4) [vl s, vl size, vl z1, vl z2, .no, .no, .no, .no] (fin Q) := by
    rintro _ _ rr cc rfl rfl r0 c0 hrc
    refine st_setEx 4 (i := repList) (G := fun p : Pic => Pk p rr cc ∧ PicOk p) (exv_of_exn (ex_callO (ok_law_picture T) (hr.mono (by decide)) (eao_v (x := s) (ev_var 0) (eao_v (x := (2 : Int)) ev_int (eao_v (x := (rr : Int)) (ev_var 2) (eao_v (x := (cc : Int)) (ev_var 3) (eao_ex (i := repTx) (G := fun x : Tx => signsOk x = true) (ex_call (ok_law_signs T) (hr.mono (by decide)) (ea_cons (x := lawCell s.l 0) (ev_call (ok_law_cell T) (hr.mono (by decide)) (ea_cons (ev_var 0) (ea_cons (x := (0 : Int)) ev_int ea_nil)) fun P R h => ⟨s, 0, rfl, hs, by decide, h⟩) (ea_cons (x := (4 : Int)) ev_int ea_nil)) fun P' R' h => ⟨_, 4, rfl, by decide, by decide, fun x hx => h _ ⟨x, hx, rfl⟩⟩) eao_nil))))) fun A' hA P' R' h => ?_)) (fun p hpo => ?_) sc_law.nd
    · obtain ⟨_, rfl, _, rfl, _, rfl, _, rfl, sg, _, hsg, rfl, rfl⟩ := hA
      have hl := signsOk_len hsg
      have hin := signsOk_in hsg
      exact ⟨s, 2, rr, cc, sg, rfl, hs, by decide, by omega, by omega, by omega, by omega, h _ ⟨_, ⟨lawPic07_pk r0 (by omega) c0 (by omega), lawPic07_ok fun k hk => by have := small_lt k (hin k hk); omega⟩, rfl⟩⟩
    obtain ⟨hp, ho⟩ := hpo
    refine st_set 5 (x := p) (ev_of_en (en_list T.b_list (ev_var 4))) ?_ sc_law.nd
    refine st_set 6 (x := seenL p rr cc) (ev_of_en (en_call (ok_law_due T) (hr.mono (by decide)) (ea_cons (ev_var (x := p) 4) ea_nil) fun P' R' h => ⟨p, rr, cc, rfl, hp, by omega, h⟩)) ?_ sc_law.nd
    have hr6 := hp.r6
    have hc6 := hp.c6
    have hmem : p ∈ seenL p rr cc := by
      rw [seenL_mem, seenAll_mem]
      refine ⟨win 0 0 rr cc, windows_mem (by omega) (by omega) (by omega) (by omega), 0, by decide, ?_⟩
      rw [winPic_win]
      have e : cutOut p 0 0 rr cc = p := by
        unfold cutOut
        rw [List.drop_zero, Nat.sub_zero, Nat.sub_zero, List.take_of_length_le (by rw [hp.len]; exact Nat.le_refl _)]
        refine (List.map_congr_left fun y hy => ?_).trans (List.map_id _)
        rw [List.drop_zero, List.take_of_length_le (by rw [hp.row y hy]; exact Nat.le_refl _)]
        rfl
      rw [e]
      rfl
    have hpk : ∀ x ∈ seenL p rr cc, ∃ r' c', Pk x r' c' := fun x hx => seen_pk hp (seenL_mem.mp hx)
    have hpo : ∀ x ∈ seenL p rr cc, x.length ≤ 6 ∧ PicOk x := fun x hx => by
      obtain ⟨r', c', hk⟩ := hpk x hx
      refine ⟨by rw [hk.len]; exact hk.r6, ?_⟩
      obtain ⟨y, hy, t, ht, rfl⟩ := seenAll_mem.mp (seenL_mem.mp hx)
      obtain ⟨t', l, b, q, rfl, g1, g2, g3, g4⟩ := mem_windows hy
      exact (ho.cut t' l b q).turned _
    have hll : (seenL p rr cc).length ≤ 20000 := by
      rw [(seenL_perm p rr cc).length_eq, List.length_map]
      have h1 := keyed_len (seenAll p rr cc)
      have h2 := seenAll_len (p := p) hr6 hc6
      omega
    refine st_setO 7 (ex_call (P := fun r' => r' = .own fun o => ∃ a ts, ts.length = (seenL p rr cc).length ∧ o = ownLL a ts (seenL p rr cc)) (ok_seen_inO T) (hr.mono (by decide)) (ea_cons (ev_var (x := p) 5) ea_nil) fun P' R' h' => ⟨p, rr, cc, rfl, hp, h' _ rfl⟩) (fun o ⟨a, ts, hts, eo⟩ => ?_) sc_law.nd
    subst eo
    generalize hL : seenL p rr cc = L at hmem hpk hpo hll hts
    refine st_le (Γ' := [.no, .no, .no, .no, vl p, vl p, vl L, .own (ownLL a ts L)]) (by walk_at "le") ?_
    have hgood : ∀ {A' : List Slot}, A' = [vl L, vl L] → ∀ P' R', P' (rv true) → good07S A' P' R' := fun e P' R' h' => ⟨L, e, hll, hpo, h'⟩
    refine st_if (k := false) (et_eq (et_or (k := false) (m := false) (et_eq (et_not (et_lendO 7 frozLL (et_val (ev_call (x := true) (ok_law_good T) (hr.mono (by decide)) (ea_cons (x := L) (ev_var 7) (ea_cons (x := L) (ev_var 6) ea_nil)) (hgood rfl))))) rfl) fun _ => et_eq (et_cmp (o_neD (α := Pic) hr ho ho) (ev_var 5) (ev_var 4)) (by simp)) rfl) (fun h => nomatch h) (fun _ => st_nil ?_)
    have hL0 : 0 < L.length := List.length_pos_of_mem hmem
    obtain ⟨x0, hx0⟩ : ∃ x, L[0]? = some x := ⟨_, List.getElem?_eq_getElem hL0⟩
    obtain ⟨t0, ht0⟩ : ∃ t, ts[0]? = some t := ⟨_, List.getElem?_eq_getElem (by omega)⟩
    obtain ⟨tl, htl⟩ : ∃ t, ts[ts.length - 1]? = some t := ⟨_, List.getElem?_eq_getElem (by omega)⟩
    obtain ⟨r', c', hk0⟩ := hpk x0 (List.mem_of_getElem? hx0)
    refine st_setInner 7 0 (t := t0) (x := x0) (y := ([] : Tx)) (z := 0) (n := 0) (M := 6) (ev_str "") (ev_lendO 7 (x := ts.map Ptr.mk) frozLLp (ev_ixL (xs := ts.map Ptr.mk) (ev_var 7) ev_int (atI_nat (j := 0) (by rw [List.getElem?_map, ht0]; rfl)))) ev_int ?_ ht0 hx0 (fun x hx => (hpo x hx).1) ?_
    · have := hk0.r0
      have := hk0.len
      unfold ixN
      rw [if_pos (by decide), if_pos (by omega)]; rfl
    refine st_appendLA 7 (t := tl) (ts := ts) (n := 6) (ev_str "") (ev_lendO 7 (x := ts.map Ptr.mk) frozLAp (ev_ixL (xs := ts.map Ptr.mk) (ev_var 7) (ev_neg ev_int) ?_)) (List.mem_of_getElem? htl) (by decide) ?_
    · have e : ixN ts.length (-1) = some (ts.length - 1) := by
        unfold ixN
        rw [if_neg (by decide), if_pos (by omega)]
        exact congrArg some (by omega)
      unfold atI
      rw [List.length_map, e]
      show (ts.map Ptr.mk)[ts.length - 1]? = _
      rw [List.getElem?_map, htl]
      rfl
    refine st_appendAny 7 (ad := a) (i := repAny) (xs := List.replicate ts.length ()) (P := fun _ => True) (ex_of_ev (ev_of_en (en_nil Tx)) trivial) ?_ (by rw [List.length_replicate]; exact Nat.lt_of_le_of_lt (show _ ≤ 20000 by omega) (by decide))
    exact st_retV (ev_eq (ev_and2 (k := true) (m := true) (ev_eq (ev_cmp (o_eqD (α := Pic) hr ho ho) (ev_var 5) (ev_var 4)) (by simp)) fun _ => ev_call (x := true) (ok_law_good T) (hr.mono (by decide)) (ea_cons (x := L) (ev_eq (ev_of_en (en_call (ok_seen_in T) (hr.mono (by decide)) (ea_cons (ev_var (x := p) 5) ea_nil) fun P' R' h' => ⟨p, rr, cc, rfl, hp, h'⟩)) hL) (ea_cons (x := L) (ev_var 6) ea_nil)) (hgood rfl)) rfl) hq
  refine st_set 2 (x := 1 + size / 4) (ev_bin o_add ev_int (ev_bin (o_div divK) (ev_var 1) ev_int)) ?_ sc_law.nd
  refine st_set 3 (x := 1 + size % 4) (ev_bin o_add ev_int (ev_bin (o_mod (by decide)) (ev_var 1) ev_int)) ?_ sc_law.nd
  refine st_if (k := decide (lawCell s.l 1 / 16 % 8 = 1)) (et_cmp o_eq (ev_bin (o_mod (by decide)) (ev_bin (o_div divK) (ev_call (x := lawCell s.l 1) (ok_law_cell T) (hr.mono (by decide)) (ea_cons (ev_var 0) (ea_cons (x := (1 : Int)) ev_int ea_nil)) fun P R h => ⟨s, 1, rfl, hs, by decide, h⟩) ev_int) ev_int) ev_int) (fun h => ?_) (fun h => st_nil ?_)
  · refine st_set 2 (x := 1 + size % 2) (ev_bin o_add ev_int (ev_bin (o_mod (by decide)) (ev_var 1) ev_int)) ?_ sc_law.nd
    refine st_set 3 (x := 1 + size / 2 % 6) (ev_bin o_add ev_int (ev_bin (o_mod (by decide)) (ev_bin (o_div divK) (ev_var 1) ev_int) ev_int)) (st_nil ?_) sc_law.nd
    exact go _ _ (1 + size % 2).toNat (1 + size / 2 % 6).toNat (by omega) (by omega) (by omega) (by omega) (by omega)
  · exact go _ _ (1 + size / 4).toNat (1 + size % 4).toNat (by omega) (by omega) (by omega) (by omega) (by omega)
end
theorem ar1 {P : List Value → Prop} (h : ∀ a0, P [a0]) (us : List Value) (hl : us.length = 1) : P us := match us, hl with | [a0], _ => h a0
theorem ar2 {P : List Value → Prop} (h : ∀ a0 a1, P [a0, a1]) (us : List Value) (hl : us.length = 2) : P us := match us, hl with | [a0, a1], _ => h a0 a1
theorem ar4 {P : List Value → Prop} (h : ∀ a0 a1 a2 a3, P [a0, a1, a2, a3]) (us : List Value) (hl : us.length = 4) : P us := match us, hl with | [a0, a1, a2, a3], _ => h a0 a1 a2 a3
theorem ar5 {P : List Value → Prop} (h : ∀ a0 a1 a2 a3 a4, P [a0, a1, a2, a3, a4]) (us : List Value) (hl : us.length = 5) : P us := match us, hl with | [a0, a1, a2, a3, a4], _ => h a0 a1 a2 a3 a4
theorem df_of {K : PySem.W.Frag} {h : Heap} {mg : Str → Option Value} {n : Str} {st : Stmt} {ps : List Str} {f : Addr} {oc : Value} {od an : Option Addr} {osl : Array (Option Value)} {kV doc pm cdv ct : Value} (X : K.In h) (G : h.Ns mainGlobals mg) (a : PySem.W.nsIn K mainGlobals n = some (some (.ref f))) (l : K.lookup f = some ⟨oc, od, .func (PySem.W.fnOf n n (defArgs st) (defBody st) (defScope st) .none kV doc pm an cdv ct), osl⟩)
    (c : PySem.W.codeIn K cdv n = true) (k : PySem.W.keepIn K (.ref f) = true)
    (hb : ∀ (kV doc pm : Value) (an : Option Addr) (cdv ct : Value) (us : List Value), us.length = ps.length → bindArgs (PySem.W.fnOf n n (defArgs st) (defBody st) (defScope st) .none kV doc pm an cdv ct) ⟨us, []⟩ = pure (ps.zip us)) : Df K mg n st ps :=
  ⟨f, _, fun_mk l c k, (fun_mk (st := st) l c k).binds hb, PySem.W.mg_of X G a⟩
theorem txt_mk {K : PySem.W.Frag} {h : Heap} {mg : Str → Option Value} (X : K.In h) (G : h.Ns mainGlobals mg)
    (zb_all : PySem.W.nsIn K mainGlobals "all" = some none)
    (zb_isinstance : PySem.W.nsIn K mainGlobals "isinstance" = some none)
    (zb_len : PySem.W.nsIn K mainGlobals "len" = some none)
    (zb_list : PySem.W.nsIn K mainGlobals "list" = some none)
    (zb_range : PySem.W.nsIn K mainGlobals "range" = some none)
    (zb_reversed : PySem.W.nsIn K mainGlobals "reversed" = some none)
    (zb_set : PySem.W.nsIn K mainGlobals "set" = some none)
    (zb_sorted : PySem.W.nsIn K mainGlobals "sorted" = some none)
    (zb_str : PySem.W.nsIn K mainGlobals "str" = some none)
    (zb_tuple : PySem.W.nsIn K mainGlobals "tuple" = some none)
    {t_MIRROR : Tok} (zc_MIRROR : PySem.W.nsIn K mainGlobals "MIRROR" = some (some (.int 4 t_MIRROR)))
    {f_size_of : Addr} {od_size_of an_size_of : Option Addr} {sl_size_of : Array (Option Value)} {oc_size_of kV_size_of dc_size_of pm_size_of cd_size_of ct_size_of : Value} (a_size_of : PySem.W.nsIn K mainGlobals "size_of" = some (some (.ref f_size_of))) (l_size_of : K.lookup f_size_of = some ⟨oc_size_of, od_size_of, .func (PySem.W.fnOf "size_of" "size_of" (defArgs s_size_of) (defBody s_size_of) (defScope s_size_of) .none kV_size_of dc_size_of pm_size_of an_size_of cd_size_of ct_size_of), sl_size_of⟩) (c_size_of : PySem.W.codeIn K cd_size_of "size_of" = true) (k_size_of : PySem.W.keepIn K (.ref f_size_of) = true)
    {f_windows_of : Addr} {od_windows_of an_windows_of : Option Addr} {sl_windows_of : Array (Option Value)} {oc_windows_of kV_windows_of dc_windows_of pm_windows_of cd_windows_of ct_windows_of : Value} (a_windows_of : PySem.W.nsIn K mainGlobals "windows_of" = some (some (.ref f_windows_of))) (l_windows_of : K.lookup f_windows_of = some ⟨oc_windows_of, od_windows_of, .func (PySem.W.fnOf "windows_of" "windows_of" (defArgs s_windows_of) (defBody s_windows_of) (defScope s_windows_of) .none kV_windows_of dc_windows_of pm_windows_of an_windows_of cd_windows_of ct_windows_of), sl_windows_of⟩) (c_windows_of : PySem.W.codeIn K cd_windows_of "windows_of" = true) (k_windows_of : PySem.W.keepIn K (.ref f_windows_of) = true)
    {f_cut_out : Addr} {od_cut_out an_cut_out : Option Addr} {sl_cut_out : Array (Option Value)} {oc_cut_out kV_cut_out dc_cut_out pm_cut_out cd_cut_out ct_cut_out : Value} (a_cut_out : PySem.W.nsIn K mainGlobals "cut_out" = some (some (.ref f_cut_out))) (l_cut_out : K.lookup f_cut_out = some ⟨oc_cut_out, od_cut_out, .func (PySem.W.fnOf "cut_out" "cut_out" (defArgs s_cut_out) (defBody s_cut_out) (defScope s_cut_out) .none kV_cut_out dc_cut_out pm_cut_out an_cut_out cd_cut_out ct_cut_out), sl_cut_out⟩) (c_cut_out : PySem.W.codeIn K cd_cut_out "cut_out" = true) (k_cut_out : PySem.W.keepIn K (.ref f_cut_out) = true)
    {f_quarter : Addr} {od_quarter an_quarter : Option Addr} {sl_quarter : Array (Option Value)} {oc_quarter kV_quarter dc_quarter pm_quarter cd_quarter ct_quarter : Value} (a_quarter : PySem.W.nsIn K mainGlobals "quarter" = some (some (.ref f_quarter))) (l_quarter : K.lookup f_quarter = some ⟨oc_quarter, od_quarter, .func (PySem.W.fnOf "quarter" "quarter" (defArgs s_quarter) (defBody s_quarter) (defScope s_quarter) .none kV_quarter dc_quarter pm_quarter an_quarter cd_quarter ct_quarter), sl_quarter⟩) (c_quarter : PySem.W.codeIn K cd_quarter "quarter" = true) (k_quarter : PySem.W.keepIn K (.ref f_quarter) = true)
    {f_mirrored : Addr} {od_mirrored an_mirrored : Option Addr} {sl_mirrored : Array (Option Value)} {oc_mirrored kV_mirrored dc_mirrored pm_mirrored cd_mirrored ct_mirrored : Value} (a_mirrored : PySem.W.nsIn K mainGlobals "mirrored" = some (some (.ref f_mirrored))) (l_mirrored : K.lookup f_mirrored = some ⟨oc_mirrored, od_mirrored, .func (PySem.W.fnOf "mirrored" "mirrored" (defArgs s_mirrored) (defBody s_mirrored) (defScope s_mirrored) .none kV_mirrored dc_mirrored pm_mirrored an_mirrored cd_mirrored ct_mirrored), sl_mirrored⟩) (c_mirrored : PySem.W.codeIn K cd_mirrored "mirrored" = true) (k_mirrored : PySem.W.keepIn K (.ref f_mirrored) = true)
    {f_turned : Addr} {od_turned an_turned : Option Addr} {sl_turned : Array (Option Value)} {oc_turned kV_turned dc_turned pm_turned cd_turned ct_turned : Value} (a_turned : PySem.W.nsIn K mainGlobals "turned" = some (some (.ref f_turned))) (l_turned : K.lookup f_turned = some ⟨oc_turned, od_turned, .func (PySem.W.fnOf "turned" "turned" (defArgs s_turned) (defBody s_turned) (defScope s_turned) .none kV_turned dc_turned pm_turned an_turned cd_turned ct_turned), sl_turned⟩) (c_turned : PySem.W.codeIn K cd_turned "turned" = true) (k_turned : PySem.W.keepIn K (.ref f_turned) = true)
    {f_many_cells : Addr} {od_many_cells an_many_cells : Option Addr} {sl_many_cells : Array (Option Value)} {oc_many_cells kV_many_cells dc_many_cells pm_many_cells cd_many_cells ct_many_cells : Value} (a_many_cells : PySem.W.nsIn K mainGlobals "many_cells" = some (some (.ref f_many_cells))) (l_many_cells : K.lookup f_many_cells = some ⟨oc_many_cells, od_many_cells, .func (PySem.W.fnOf "many_cells" "many_cells" (defArgs s_many_cells) (defBody s_many_cells) (defScope s_many_cells) .none kV_many_cells dc_many_cells pm_many_cells an_many_cells cd_many_cells ct_many_cells), sl_many_cells⟩) (c_many_cells : PySem.W.codeIn K cd_many_cells "many_cells" = true) (k_many_cells : PySem.W.keepIn K (.ref f_many_cells) = true)
    {f_seen_in : Addr} {od_seen_in an_seen_in : Option Addr} {sl_seen_in : Array (Option Value)} {oc_seen_in kV_seen_in dc_seen_in pm_seen_in cd_seen_in ct_seen_in : Value} (a_seen_in : PySem.W.nsIn K mainGlobals "seen_in" = some (some (.ref f_seen_in))) (l_seen_in : K.lookup f_seen_in = some ⟨oc_seen_in, od_seen_in, .func (PySem.W.fnOf "seen_in" "seen_in" (defArgs s_seen_in) (defBody s_seen_in) (defScope s_seen_in) .none kV_seen_in dc_seen_in pm_seen_in an_seen_in cd_seen_in ct_seen_in), sl_seen_in⟩) (c_seen_in : PySem.W.codeIn K cd_seen_in "seen_in" = true) (k_seen_in : PySem.W.keepIn K (.ref f_seen_in) = true)
    {f_law_cell : Addr} {od_law_cell an_law_cell : Option Addr} {sl_law_cell : Array (Option Value)} {oc_law_cell kV_law_cell dc_law_cell pm_law_cell cd_law_cell ct_law_cell : Value} (a_law_cell : PySem.W.nsIn K mainGlobals "_law_cell" = some (some (.ref f_law_cell))) (l_law_cell : K.lookup f_law_cell = some ⟨oc_law_cell, od_law_cell, .func (PySem.W.fnOf "_law_cell" "_law_cell" (defArgs s_law_cell) (defBody s_law_cell) (defScope s_law_cell) .none kV_law_cell dc_law_cell pm_law_cell an_law_cell cd_law_cell ct_law_cell), sl_law_cell⟩) (c_law_cell : PySem.W.codeIn K cd_law_cell "_law_cell" = true) (k_law_cell : PySem.W.keepIn K (.ref f_law_cell) = true)
    {f_law_signs : Addr} {od_law_signs an_law_signs : Option Addr} {sl_law_signs : Array (Option Value)} {oc_law_signs kV_law_signs dc_law_signs pm_law_signs cd_law_signs ct_law_signs : Value} (a_law_signs : PySem.W.nsIn K mainGlobals "_law_signs" = some (some (.ref f_law_signs))) (l_law_signs : K.lookup f_law_signs = some ⟨oc_law_signs, od_law_signs, .func (PySem.W.fnOf "_law_signs" "_law_signs" (defArgs s_law_signs) (defBody s_law_signs) (defScope s_law_signs) .none kV_law_signs dc_law_signs pm_law_signs an_law_signs cd_law_signs ct_law_signs), sl_law_signs⟩) (c_law_signs : PySem.W.codeIn K cd_law_signs "_law_signs" = true) (k_law_signs : PySem.W.keepIn K (.ref f_law_signs) = true)
    {f_law_row : Addr} {od_law_row an_law_row : Option Addr} {sl_law_row : Array (Option Value)} {oc_law_row kV_law_row dc_law_row pm_law_row cd_law_row ct_law_row : Value} (a_law_row : PySem.W.nsIn K mainGlobals "_law_row" = some (some (.ref f_law_row))) (l_law_row : K.lookup f_law_row = some ⟨oc_law_row, od_law_row, .func (PySem.W.fnOf "_law_row" "_law_row" (defArgs s_law_row) (defBody s_law_row) (defScope s_law_row) .none kV_law_row dc_law_row pm_law_row an_law_row cd_law_row ct_law_row), sl_law_row⟩) (c_law_row : PySem.W.codeIn K cd_law_row "_law_row" = true) (k_law_row : PySem.W.keepIn K (.ref f_law_row) = true)
    {f_law_picture : Addr} {od_law_picture an_law_picture : Option Addr} {sl_law_picture : Array (Option Value)} {oc_law_picture kV_law_picture dc_law_picture pm_law_picture cd_law_picture ct_law_picture : Value} (a_law_picture : PySem.W.nsIn K mainGlobals "_law_picture" = some (some (.ref f_law_picture))) (l_law_picture : K.lookup f_law_picture = some ⟨oc_law_picture, od_law_picture, .func (PySem.W.fnOf "_law_picture" "_law_picture" (defArgs s_law_picture) (defBody s_law_picture) (defScope s_law_picture) .none kV_law_picture dc_law_picture pm_law_picture an_law_picture cd_law_picture ct_law_picture), sl_law_picture⟩) (c_law_picture : PySem.W.codeIn K cd_law_picture "_law_picture" = true) (k_law_picture : PySem.W.keepIn K (.ref f_law_picture) = true)
    {f_law_quarter : Addr} {od_law_quarter an_law_quarter : Option Addr} {sl_law_quarter : Array (Option Value)} {oc_law_quarter kV_law_quarter dc_law_quarter pm_law_quarter cd_law_quarter ct_law_quarter : Value} (a_law_quarter : PySem.W.nsIn K mainGlobals "_law_quarter" = some (some (.ref f_law_quarter))) (l_law_quarter : K.lookup f_law_quarter = some ⟨oc_law_quarter, od_law_quarter, .func (PySem.W.fnOf "_law_quarter" "_law_quarter" (defArgs s_law_quarter) (defBody s_law_quarter) (defScope s_law_quarter) .none kV_law_quarter dc_law_quarter pm_law_quarter an_law_quarter cd_law_quarter ct_law_quarter), sl_law_quarter⟩) (c_law_quarter : PySem.W.codeIn K cd_law_quarter "_law_quarter" = true) (k_law_quarter : PySem.W.keepIn K (.ref f_law_quarter) = true)
    {f_law_turned : Addr} {od_law_turned an_law_turned : Option Addr} {sl_law_turned : Array (Option Value)} {oc_law_turned kV_law_turned dc_law_turned pm_law_turned cd_law_turned ct_law_turned : Value} (a_law_turned : PySem.W.nsIn K mainGlobals "_law_turned" = some (some (.ref f_law_turned))) (l_law_turned : K.lookup f_law_turned = some ⟨oc_law_turned, od_law_turned, .func (PySem.W.fnOf "_law_turned" "_law_turned" (defArgs s_law_turned) (defBody s_law_turned) (defScope s_law_turned) .none kV_law_turned dc_law_turned pm_law_turned an_law_turned cd_law_turned ct_law_turned), sl_law_turned⟩) (c_law_turned : PySem.W.codeIn K cd_law_turned "_law_turned" = true) (k_law_turned : PySem.W.keepIn K (.ref f_law_turned) = true)
    {f_law_due : Addr} {od_law_due an_law_due : Option Addr} {sl_law_due : Array (Option Value)} {oc_law_due kV_law_due dc_law_due pm_law_due cd_law_due ct_law_due : Value} (a_law_due : PySem.W.nsIn K mainGlobals "_law_due" = some (some (.ref f_law_due))) (l_law_due : K.lookup f_law_due = some ⟨oc_law_due, od_law_due, .func (PySem.W.fnOf "_law_due" "_law_due" (defArgs s_law_due) (defBody s_law_due) (defScope s_law_due) .none kV_law_due dc_law_due pm_law_due an_law_due cd_law_due ct_law_due), sl_law_due⟩) (c_law_due : PySem.W.codeIn K cd_law_due "_law_due" = true) (k_law_due : PySem.W.keepIn K (.ref f_law_due) = true)
    {f_law_good : Addr} {od_law_good an_law_good : Option Addr} {sl_law_good : Array (Option Value)} {oc_law_good kV_law_good dc_law_good pm_law_good cd_law_good ct_law_good : Value} (a_law_good : PySem.W.nsIn K mainGlobals "_law_good" = some (some (.ref f_law_good))) (l_law_good : K.lookup f_law_good = some ⟨oc_law_good, od_law_good, .func (PySem.W.fnOf "_law_good" "_law_good" (defArgs s_law_good) (defBody s_law_good) (defScope s_law_good) .none kV_law_good dc_law_good pm_law_good an_law_good cd_law_good ct_law_good), sl_law_good⟩) (c_law_good : PySem.W.codeIn K cd_law_good "_law_good" = true) (k_law_good : PySem.W.keepIn K (.ref f_law_good) = true)
    : Txt K mg := ⟨PySem.W.mg_none_of X G zb_all,
    PySem.W.mg_none_of X G zb_isinstance,
    PySem.W.mg_none_of X G zb_len,
    PySem.W.mg_none_of X G zb_list,
    PySem.W.mg_none_of X G zb_range,
    PySem.W.mg_none_of X G zb_reversed,
    PySem.W.mg_none_of X G zb_set,
    PySem.W.mg_none_of X G zb_sorted,
    PySem.W.mg_none_of X G zb_str,
    PySem.W.mg_none_of X G zb_tuple,
    ⟨_, PySem.W.mg_of X G zc_MIRROR⟩,
    df_of X G a_size_of l_size_of c_size_of k_size_of fun _ _ _ _ _ _ => ar1 fun _ => rfl,
    df_of X G a_windows_of l_windows_of c_windows_of k_windows_of fun _ _ _ _ _ _ => ar2 fun _ _ => rfl,
    df_of X G a_cut_out l_cut_out c_cut_out k_cut_out fun _ _ _ _ _ _ => ar2 fun _ _ => rfl,
    df_of X G a_quarter l_quarter c_quarter k_quarter fun _ _ _ _ _ _ => ar1 fun _ => rfl,
    df_of X G a_mirrored l_mirrored c_mirrored k_mirrored fun _ _ _ _ _ _ => ar1 fun _ => rfl,
    df_of X G a_turned l_turned c_turned k_turned fun _ _ _ _ _ _ => ar2 fun _ _ => rfl,
    df_of X G a_many_cells l_many_cells c_many_cells k_many_cells fun _ _ _ _ _ _ => ar1 fun _ => rfl,
    df_of X G a_seen_in l_seen_in c_seen_in k_seen_in fun _ _ _ _ _ _ => ar1 fun _ => rfl,
    df_of X G a_law_cell l_law_cell c_law_cell k_law_cell fun _ _ _ _ _ _ => ar2 fun _ _ => rfl,
    df_of X G a_law_signs l_law_signs c_law_signs k_law_signs fun _ _ _ _ _ _ => ar2 fun _ _ => rfl,
    df_of X G a_law_row l_law_row c_law_row k_law_row fun _ _ _ _ _ _ => ar4 fun _ _ _ _ => rfl,
    df_of X G a_law_picture l_law_picture c_law_picture k_law_picture fun _ _ _ _ _ _ => ar5 fun _ _ _ _ _ => rfl,
    df_of X G a_law_quarter l_law_quarter c_law_quarter k_law_quarter fun _ _ _ _ _ _ => ar1 fun _ => rfl,
    df_of X G a_law_turned l_law_turned c_law_turned k_law_turned fun _ _ _ _ _ _ => ar2 fun _ _ => rfl,
    df_of X G a_law_due l_law_due c_law_due k_law_due fun _ _ _ _ _ _ => ar1 fun _ => rfl,
    df_of X G a_law_good l_law_good c_law_good k_law_good fun _ _ _ _ _ _ => ar2 fun _ _ => rfl⟩
theorem all_mk {l : PySem.W.OpenLaw} {w : World} {K : PySem.W.Frag} {h : Heap} {mg : Str → Option Value} {fa : Addr} (X : K.In h) (G : h.Ns mainGlobals mg) (hfa : mg "law" = some (.ref fa)) (T : Txt K mg)
    {f_law : Addr} {od_law an_law : Option Addr} {sl_law : Array (Option Value)} {oc_law kV_law dc_law pm_law cd_law ct_law : Value} (a_law : PySem.W.nsIn K mainGlobals "law" = some (some (.ref f_law))) (l_law : K.lookup f_law = some ⟨oc_law, od_law, .func (PySem.W.fnOf "law" "law" (defArgs s_law) (defBody s_law) (defScope s_law) .none kV_law dc_law pm_law an_law cd_law ct_law), sl_law⟩) (c_law : PySem.W.codeIn K cd_law "law" = true) (k_law : PySem.W.keepIn K (.ref f_law) = true) :
    ∃ fd : FuncData, (∀ (s : Shared) (v : Value), BindsTo s fd ⟨[v], []⟩ [("_law_script", v)]) ∧ ∀ base : Heap, K.In base → base.Ns mainGlobals mg → FnOk l.prog w K mg base (L2.CX l.prog w) 21 fa fd ["_law_script"] (spOf K lawS) := by
  have e := hfa.symm.trans (PySem.W.mg_of X G a_law)
  cases e
  exact ⟨PySem.W.fnOf "law" "law" (defArgs s_law) (defBody s_law) (defScope s_law) .none kV_law dc_law pm_law an_law cd_law ct_law, fun s v => .of_eq rfl, fun base _ _ => law_fn (fun_mk l_law c_law k_law) sc_law (body_law T)⟩
end Law
namespace Hd
open PySem PySem.W PyProof.Rows
theorem split3 {S A B C : Type} {x : Option S} {f : S → A} {g : S → B} {h : S → C} {a : A} {b : B} {c : C} (h1 : x.map f = some a) (h2 : x.map g = some b) (h3 : x.map h = some c) : x.map (fun s => (f s, g s, h s)) = some (a, b, c) := by
  cases x with
  | none => cases h1
  | some s => cases h1; cases h2; cases h3; rfl
noncomputable abbrev pr := PySem.Challenge.rw_quiltlaw_k07_whole_seen_in.row.prog
noncomputable abbrev qq : Program := view pr [20]
noncomputable abbrev lo : List PySem.Str := ([PySem.Str.ofString "size_of", PySem.Str.ofString "windows_of", PySem.Str.ofString "cut_out", PySem.Str.ofString "MIRROR", PySem.Str.ofString "quarter", PySem.Str.ofString "mirrored", PySem.Str.ofString "turned", PySem.Str.ofString "many_cells", PySem.Str.ofString "seen_in", PySem.Str.ofString "_law_cell", PySem.Str.ofString "_law_signs", PySem.Str.ofString "_law_row", PySem.Str.ofString "_law_picture", PySem.Str.ofString "_law_quarter", PySem.Str.ofString "_law_turned", PySem.Str.ofString "_law_due", PySem.Str.ofString "_law_good"] : List PySem.Str)
noncomputable def st : Stmt := pr.main.body.getD 20 (.Pass ⟨0, 0, 0, 0⟩)
noncomputable def posOf : Stmt → Pos
  | .FunctionDef _ _ _ _ _ _ _ _ _ p => p
  | _ => ⟨0, 0, 0, 0⟩
noncomputable abbrev ld : DefRec := ⟨"law", L2.defArgs st, L2.defBody st, L2.defScope st, posOf st⟩
theorem run_looks (w : World) (os : OsState) : (HeadRun.endF (HeadRun.stepQ (HeadRun.denQ HeadRun.tabQ) pr w) 20000 pr w os).map (fun s => HeadRun.looksF pr (boot_heap w.params) s.abs) = some true := by kernel_rfl
theorem run_seen (w : World) (os : OsState) : (HeadRun.endF (HeadRun.stepQ (HeadRun.denQ HeadRun.tabQ) pr w) 20000 pr w os).map (fun s => HeadRun.seenQ qq lo (importedModules pr.main.body) (fun s => xlAt qq [] s && recOk PySem.Challenge.rw_quiltlaw_k07_whole_seen_in.row.records s) s.abs) = some (openGood qq lo) := by kernel_rfl
end Hd
open PySem PySem.W PyProof.Rows
set_option hygiene false in
local macro_rules | `(tactic| o_head $H) => `(tactic| (
  refine PySem.W.holds_open (q := Hd.qq) (loose := Hd.lo) (d := Hd.ld) (kwd := []) (Xt := fun s => xlAt Hd.qq [] s && recOk PySem.Challenge.rw_quiltlaw_k07_whole_seen_in.row.records s) (XP := XL Hd.qq []) (Yf := Hook.obs $H) (Ya := Hook.val $H) (YP := Hook.says $H) (N := 21000) ?hl (Hook.of $H) (Hook.keeps $H) (fun s e => xl_of s (Bool.and_eq_true_iff.mp e).1) XL.keeps (by kernel_rfl) (by kernel_rfl) (by kernel_rfl) (fun s e => recFacts_of (Bool.and_eq_true_iff.mp e).2) (by rfl) (by first | assumption | decide +kernel) (by decide +kernel) ⟨rfl, rfl, rfl, rfl, rfl, by decide +kernel⟩ ?hw ?hc
  case hl =>
    refine HeadRun.left_oneK (M := 20000) (by kernel_rfl) (by rfl) (fun s => by kernel_rfl) (by rfl) ?_
    intro w os
    with_reducible refine Hd.split3 ?_ ?_ ?_
    · exact Eq.mpr (by kernel_rfl) (Hd.run_looks w os)
    · exact Eq.mpr (by kernel_rfl) (Hd.run_seen w os)
    · kernel_rfl))
open PySem PySem.W PyProof.Rows
set_option maxRecDepth 100000 in
set_option maxHeartbeats 0 in
theorem PySem.Challenge.cw_quiltlaw_k07_whole_seen_in_holds : PySem.Challenge.rw_quiltlaw_k07_whole_seen_in.Holds := by
  w_on; o_law; k_head; (case hw => w_witness2)
  k_fill
  refine L2.walk_of (l := PySem.Challenge.rw_quiltlaw_k07_whole_seen_in) (n := 63) (k := 21) (x := "_law_script") (CX := fun w => L2.CX PySem.Challenge.rw_quiltlaw_k07_whole_seen_in.prog w) (sp := fun w => Tw.spOf _ Tw.lawS) rfl (by decide) rfl ⟨rfl, by decide, by decide⟩ (fun w h Y => PySem.W.kIn_of Y) ?F (fun _ H a ns hl _ hS => Tw.law_sp _ H a ns hl hS) (fun w H s e s' => Tw.hCX0 _ w H s e s')
  case F =>
    intro w mg fa h KX G hmg
    refine' Law.all_mk KX G hmg (Law.txt_mk KX G ?zb_all ?zb_isinstance ?zb_len ?zb_list ?zb_range ?zb_reversed ?zb_set ?zb_sorted ?zb_str ?zb_tuple ?zc_MIRROR ?a_size_of ?l_size_of ?c_size_of ?k_size_of ?a_windows_of ?l_windows_of ?c_windows_of ?k_windows_of ?a_cut_out ?l_cut_out ?c_cut_out ?k_cut_out ?a_quarter ?l_quarter ?c_quarter ?k_quarter ?a_mirrored ?l_mirrored ?c_mirrored ?k_mirrored ?a_turned ?l_turned ?c_turned ?k_turned ?a_many_cells ?l_many_cells ?c_many_cells ?k_many_cells ?a_seen_in ?l_seen_in ?c_seen_in ?k_seen_in ?a_law_cell ?l_law_cell ?c_law_cell ?k_law_cell ?a_law_signs ?l_law_signs ?c_law_signs ?k_law_signs ?a_law_row ?l_law_row ?c_law_row ?k_law_row ?a_law_picture ?l_law_picture ?c_law_picture ?k_law_picture ?a_law_quarter ?l_law_quarter ?c_law_quarter ?k_law_quarter ?a_law_turned ?l_law_turned ?c_law_turned ?k_law_turned ?a_law_due ?l_law_due ?c_law_due ?k_law_due ?a_law_good ?l_law_good ?c_law_good ?k_law_good) ?a_law ?l_law ?c_law ?k_law
    (case zb_all => k_is)
    (case zb_isinstance => k_is)
    (case zb_len => k_is)
    (case zb_list => k_is)
    (case zb_range => k_is)
    (case zb_reversed => k_is)
    (case zb_set => k_is)
    (case zb_sorted => k_is)
    (case zb_str => k_is)
    (case zb_tuple => k_is)
    (case zc_MIRROR => k_is)
    (case a_size_of => k_is)
    (case l_size_of => k_is)
    (case c_size_of => k_is)
    (case k_size_of => k_is)
    (case a_windows_of => k_is)
    (case l_windows_of => k_is)
    (case c_windows_of => k_is)
    (case k_windows_of => k_is)
    (case a_cut_out => k_is)
    (case l_cut_out => k_is)
    (case c_cut_out => k_is)
    (case k_cut_out => k_is)
    (case a_quarter => k_is)
    (case l_quarter => k_is)
    (case c_quarter => k_is)
    (case k_quarter => k_is)
    (case a_mirrored => k_is)
    (case l_mirrored => k_is)
    (case c_mirrored => k_is)
    (case k_mirrored => k_is)
    (case a_turned => k_is)
    (case l_turned => k_is)
    (case c_turned => k_is)
    (case k_turned => k_is)
    (case a_many_cells => k_is)
    (case l_many_cells => k_is)
    (case c_many_cells => k_is)
    (case k_many_cells => k_is)
    (case a_seen_in => k_is)
    (case l_seen_in => k_is)
    (case c_seen_in => k_is)
    (case k_seen_in => k_is)
    (case a_law_cell => k_is)
    (case l_law_cell => k_is)
    (case c_law_cell => k_is)
    (case k_law_cell => k_is)
    (case a_law_signs => k_is)
    (case l_law_signs => k_is)
    (case c_law_signs => k_is)
    (case k_law_signs => k_is)
    (case a_law_row => k_is)
    (case l_law_row => k_is)
    (case c_law_row => k_is)
    (case k_law_row => k_is)
    (case a_law_picture => k_is)
    (case l_law_picture => k_is)
    (case c_law_picture => k_is)
    (case k_law_picture => k_is)
    (case a_law_quarter => k_is)
    (case l_law_quarter => k_is)
    (case c_law_quarter => k_is)
    (case k_law_quarter => k_is)
    (case a_law_turned => k_is)
    (case l_law_turned => k_is)
    (case c_law_turned => k_is)
    (case k_law_turned => k_is)
    (case a_law_due => k_is)
    (case l_law_due => k_is)
    (case c_law_due => k_is)
    (case k_law_due => k_is)
    (case a_law_good => k_is)
    (case l_law_good => k_is)
    (case c_law_good => k_is)
    (case k_law_good => k_is)
    (case a_law => k_is)
    (case l_law => k_is)
    (case c_law => k_is)
    (case k_law => k_is)
