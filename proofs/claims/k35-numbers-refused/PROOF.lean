import PyProof.Rows.All
import Wide.All
import OpenK.AllK
import Wide.FinOn
import HandS.ForMost
import HandS.ForExc
import HandS.Wide
import HandS.EndBits
import HandS.IsInst
import HandS.ExcInit
import HandS.ExcIs
import HandS.RevTup
import HandS.MapObj
import HandS.MapJoin
import HandS.Rev
import HandS.DictComp
import HandS.Strs
import HandS.TupSets
import HandS.Zip
import HandS.RevRange
import HandS.SortKw
import HandS.TryOnly
import HandS.Style
import PyProof.ListNew
import HandS.Deep
import PyProof.MinMaxWalk
import PyProof.WalkInts
import PyProof.Rows.CallKwBuiltin
import PyProof.Rows.CallKw2
import KE.KMinBuiltin
import PyProof.Draws
import PyProof.EnumMake
import KE.GoesMore
import KE.GoesEnum
import HandS.TupAny
import PyProof.AutoSeq1
import PySem.Challenge.RW_quiltlaw_k35_numbers_refused
set_option Elab.async false
set_option linter.all false
set_option genSizeOf false
set_option genInjectivity false
set_option maxRecDepth 100000
set_option maxHeartbeats 4000000
namespace RevS
open PySem PySem.Spec PyProof.Rows RT MpR
theorem norev_str : typeLookup (.type "str") "__reversed__" = pure none := by rw [typeLookup_type, builtinLookup_eq_fast]; kernel_rfl
theorem get_str : typeLookup (.type "str") "__getitem__" = pure (some (.builtin "str.__getitem__")) := by rw [typeLookup_type, builtinLookup_eq_fast]; kernel_rfl
theorem sub_str_dict : isSubtype (.type "str") (.type "dict") = pure false := by rw [isSubtype_type]; kernel_rfl
theorem nolen_rev : typeLookup (.type "reversed") "__len__" = pure none := by rw [typeLookup_type, builtinLookup_eq_fast]; kernel_rfl
theorem slot_hint : Slot "reversed" "__length_hint__" "reversed.__length_hint__" :=
  .of (owner := "reversed") (n := "__length_hint__") (by rw [typeLookup_type, builtinLookup_eq_fast]; kernel_rfl) (by decide +kernel) (by decide +kernel) (by decide +kernel)
    (by first | exact .inl (by decide +kernel) | exact .inr (by decide +kernel)) (by rw [isSubtype_type]; kernel_rfl)
theorem entry_hint : entryFor table "reversed.__length_hint__" = some Builtin.«reversed.__length_hint__» := entryFor_of_tree (by kernel_rfl)
theorem args_hint (a : Value) : argsOk "reversed.__length_hint__" ⟨[a], []⟩ := by
  unfold argsOk; rw [signature?_of (id := "reversed.__length_hint__") (n := ['_', '_', 't', 'n', 'i', 'h', '_', 'h', 't', 'g', 'n', 'e', 'l', '_', '_']) (o := ['d', 'e', 's', 'r', 'e', 'v', 'e', 'r']) (by kernel_rfl) owner_rt]; kernel_rfl
noncomputable def rsObj (x : Str) (t : Tok) (i : Int) : Obj := { cls := .type "reversed", data := .fields #[.str x t, rawInt i] }
noncomputable def IsRs (h : Heap) (a : Addr) (x : Str) (t : Tok) (i : Int) : Prop := ∃ o, h.get? a = some o ∧ o.cls = .type "reversed" ∧ o.data = .fields #[.str x t, rawInt i]
theorem IsRs.at {h h' : Heap} {a : Addr} {x : Str} {t : Tok} {i : Int} (q : IsRs h a x t i) (e : ∀ o, h.get? a = some o → h'.get? a = some o) : IsRs h' a x t i := let ⟨o, ho, r⟩ := q; ⟨o, e _ ho, r⟩
section
variable {prog : Program} {w : World} {A : Around} {E : Value → Shared → Prop} {s : Shared}
theorem IsRs.typeIs {a : Addr} {x : Str} {t : Tok} {i : Int} (q : IsRs s.heap a x t i) : s.TypeIs (.ref a) "reversed" := let ⟨o, ho, hc, _⟩ := q; ⟨o, ho, hc⟩
theorem code_reversed_str {x : Str} {t : Tok} {Q₁ : Value → Shared → Prop} (hz : x.length ≤ sizeLine)
    (h : Q₁ (.ref s.heap.objs.size) { s with heap := s.heap.push (rsObj x t ((x.length : Int) - 1)), toks := s.toks + 1 + 1 }) :
    codeAny (model prog w) A (.call (.builtin "reversed.__new__") ⟨[.type "reversed", .str x t], []⟩) (wants Q₁ E) s := by
  have hT : s.TypeIs (.str x t) "str" := typeIs_str _ _ _
  refine codeAny_of_tree ?_
  show wpAny _ A.in1 (do checkBuiltinCall "reversed.__new__" ⟨[.type "reversed", .str x t], []⟩; again (.builtin "reversed.__new__" ⟨[.type "reversed", .str x t], []⟩)) _ _ s
  refine wpAny_bind (wpAny_of_eq (F.newCall_reversed_1 _) (wpAny_pure ⟨plainId_quiet F.plain_reversed_new _, codeAny_builtin F.entry_reversed_new ?_⟩))
  rw [Around.under_plainId F.plain_reversed_new _]
  unfold Builtin.«reversed.__new__»
  refine wpAny_bind (wpAny_of_eq (newClass_reversed _) ?_)
  try dsimp only
  refine wpAny_bind (wpAny_of_eq (a := ()) (by first | rfl | kernel_rfl) ?_)
  try dsimp only
  refine wpAny_bind (wpAny_of_eq (a := ()) (by first | rfl | kernel_rfl) ?_)
  try dsimp only
  refine wpAny_bind (wpAny_specialOf hT norev_str ?_)
  try dsimp only
  refine wpAny_bind ?_
  wp_delta
  refine wpAny_bind (wpAny_isInstance (T := "str") (U := "dict") (b := false) hT sub_str_dict ?_)
  try dsimp only
  try rw [if_neg Bool.false_ne_true]
  try dsimp only
  refine wpAny_bind (wpAny_specialOf hT get_str ?_)
  try dsimp only
  try rw [if_pos (by decide +kernel)]
  refine wpAny_pure ?_
  try dsimp only
  try rw [if_neg (by decide)]
  try dsimp only
  refine wpAny_bind (P.len_str (by have := L2.line63; omega) ?_)
  refine wpAny_bind (wpAny_of_eq (a := some ((x.length : Nat) : Int)) rfl ?_)
  try dsimp only
  refine wpAny_bind ?_
  show wpAny _ _ (newObj (.type "reversed") (.fields #[.str x t, rawInt ((x.length : Int) - 1)])) _ _ _
  refine wpAny_newObj_type ?_
  exact wpAny_pure h
theorem call_reversed_str {x : Str} {t : Tok} {Q : Value → Shared → Prop} (hz : x.length ≤ sizeLine)
    (h : Q (.ref s.heap.objs.size) { s with heap := s.heap.push (rsObj x t ((x.length : Int) - 1)), toks := s.toks + 1 + 1 }) : wpAny (model prog w) A (call (.type "reversed") [.str x t]) Q E s := by
  refine callType_codes (Q₁ := fun obj s₁ => s₁.TypeIs obj "reversed" ∧ Q obj s₁) called_rt (F.typeCall_reversed_1 _) F.entry_object_init
    (code_reversed_str (A := A.in1) hz ⟨⟨_, Heap.get?_push_size _ rfl, rfl⟩, h⟩) fun obj s₁ h₁ => ?_
  exact ⟨h₁.1, F.args_object_init_2 obj _, object_init_meets called_rt.init.lookup called_rt.made (by decide) prog w A.in1 _ s₁ ⟨h₁.1, rfl, h₁.2⟩⟩
theorem next_rs_item {it : Addr} {x : Str} {t : Tok} {i c : Nat} {Q : Option Value → Shared → Prop} (hit : IsRs s.heap it x t (i : Int)) (hx : x.cps[i]? = some c) (hsz : x.length ≤ sizeLine)
    (hQ : ∀ h' tk, IsRs h' it x t ((i : Int) - 1) → Heap.SameBut it s.heap h' → Q (some (.str ⟨#[c]⟩ (s.toks + 1))) { s with heap := h', toks := tk }) : wpAny (model prog w) A (pyNext (.ref it)) Q E s := by
  obtain ⟨o, ho, hc, hd⟩ := id hit
  have hi : i < x.length := (Array.getElem?_eq_some_iff.mp hx).1
  have hT : s.TypeIs (.str x t) "str" := typeIs_str _ _ _
  have hn := L2.line63
  unfold pyNext
  refine wpAny_bind (wpAny_attempt (wpAny_callSpecial?_slot (name := Str.ofString "__next__") hit.typeIs slot_rt_next
    (wpAny_call_entry slot_rt_next hit.typeIs entry_rt_next ?_ (args_rt_next _))))
  unfold Builtin.«reversed.__next__»
  refine wpAny_bind (wpAny_of_eq (a := (Value.ref it, [])) rfl ?_)
  try dsimp only
  refine wpAny_bind (wpAny_field ho hd (x := .str x t) rfl ?_)
  try dsimp only
  refine wpAny_bind (wpAny_field ho hd (x := rawInt (i : Int)) rfl ?_)
  show wpAny _ _ (if (i : Int) < 0 then _ else _) _ _ s
  rw [if_neg (by omega)]
  try dsimp only
  refine wpAny_bind (wpAny_specialOf hT get_str ?_)
  try dsimp only
  try rw [if_neg (by decide)]
  try dsimp only
  refine wpAny_bind (wpAny_mkInt ?_)
  refine wpAny_bind (wpAny_attempt ?_)
  have fin : seqIndex? (i : Int) x.length = some i := seqIndex_of (by omega) (by omega)
  refine P.getItem_str (s := { s with toks := s.toks + 1 }) (c := c) (by
    have e1 : decide ((i : Int) < -(2 ^ 63 : Int)) = false := decide_eq_false (by omega)
    have e2 : decide ((i : Int) ≥ 2 ^ 63) = false := decide_eq_false (by omega)
    rw [e1, e2, Bool.or_false]) (by rw [fin]; simpa using hx) ?_
  try dsimp only
  refine wpAny_bind (wpAny_field (s := { s with toks := s.toks + 1 + 1 }) ho hd (x := rawInt (i : Int)) rfl ?_)
  try dsimp only
  refine wpAny_bind (wpAny_setField (s := { s with toks := s.toks + 1 + 1 }) ho hd (by simp) ?_)
  first
  | refine wpAny_pure ⟨_, rfl, wpAny_pure (hQ _ _ ?_ (Heap.SameBut.update ..))⟩
  | refine wpAny_bind (wpAny_pure (wpAny_pure ⟨_, rfl, wpAny_pure (hQ _ _ ?_ (Heap.SameBut.update ..))⟩))
  exact ⟨_, Heap.get?_update_self _ ho (Obj.isFreed_of_fields (Obj.data_mapFields hd _)), (Obj.cls_mapFields ..).trans hc, by
    rw [Obj.data_mapFields hd]; simp⟩
theorem next_rs_end {it : Addr} {x : Str} {t : Tok} {Q : Option Value → Shared → Prop} (hh : A.handled = none) (hit : IsRs s.heap it x t (-1))
    (hQ : ∀ h', Heap.ExtBut it s.heap h' → Q none { s with heap := h' }) : wpAny (model prog w) A (pyNext (.ref it)) Q E s := by
  obtain ⟨o, ho, hc, hd⟩ := id hit
  unfold pyNext
  refine wpAny_bind (wpAny_attempt (wpAny_callSpecial?_slot (name := Str.ofString "__next__") hit.typeIs slot_rt_next
    (wpAny_call_entry slot_rt_next hit.typeIs entry_rt_next ?_ (args_rt_next _))))
  unfold Builtin.«reversed.__next__»
  refine wpAny_bind (wpAny_of_eq (a := (Value.ref it, [])) rfl ?_)
  try dsimp only
  refine wpAny_bind (wpAny_field ho hd (x := .str x t) rfl ?_)
  try dsimp only
  refine wpAny_bind (wpAny_field ho hd (x := rawInt (-1)) rfl ?_)
  show wpAny _ _ (if (-1 : Int) < 0 then _ else _) _ _ s
  rw [if_pos (by decide)]
  try dsimp only
  refine wpAny_bind (wpAny_rule ?_)
  refine wpAny_bind ?_
  wp_delta
  refine wpAny_bind (wpAny_setField ho hd (by simp) ?_)
  have ho2 := Heap.get?_update_self (Obj.mapFields (·.setIfInBounds 1 (rawInt (-1)))) ho (Obj.isFreed_of_fields (Obj.data_mapFields hd _))
  refine wpAny_setField (s := { s with heap := s.heap.update it (Obj.mapFields (·.setIfInBounds 1 (rawInt (-1)))) }) ho2 (Obj.data_mapFields hd _) (by simp) ?_
  try dsimp only
  first
  | show wpAny _ _ (newExc (.type "StopIteration") [] >>= _) _ _ _
  | (refine wpAny_bind ?_; show wpAny _ _ (newExc (.type "StopIteration") [] >>= _) _ _ _)
  | (refine wpAny_bind ?_; wp_delta; show wpAny _ _ (newExc (.type "StopIteration") [] >>= _) _ _ _)
  refine wpAny_bind ?_
  simp only [newExc, newTuple]
  refine wpAny_bind (wpAny_newObj_type ?_ (by size_fits))
  refine wpAny_bind (m := firstArgMember _ _) (wpAny_of_eq (a := Value.none) (by first | rfl | (simp only [firstArgMember]; rfl)) ?_)
  refine wpAny_newObj_type ?_ (by size_fits)
  simp only [raiseNew]
  refine wpAny_bind (wpAny_handled ?_)
  first | rw [show A.in1.handled = none from hh] | rw [hh]
  refine wpAny_bind (wpAny_pure (wpAny_throw ?_))
  refine wpAny_bind (wpAny_isInstance (T := "StopIteration") (b := true) ⟨_, Heap.get?_push_size _ rfl, rfl⟩ isSubtype_stop ?_)
  refine wpAny_pure (hQ _ ?_)
  refine ((?_ : Heap.ExtBut it s.heap _).push _).push _
  exact fun b ob hb e => (Heap.get?_update_other _ _ (Ne.symm hb)).trans ((Heap.get?_update_other _ _ (Ne.symm hb)).trans e)
theorem iter_rs {it : Addr} {x : Str} {t : Tok} {i : Int} {Q : Value → Shared → Prop} (hit : IsRs s.heap it x t i) (h : Q (.ref it) s) : wpAny (model prog w) A (pyIter (.ref it)) Q E s := by
  refine wpAny_pyIter_slot hit.typeIs slot_rt_iter (wpAny_call_entry slot_rt_iter hit.typeIs entry_rt_iter ?_ (args_rt_iter _))
  show wpAny _ _ (ret (.ref it)) _ _ s
  exact wpAny_pure ⟨_, rfl, "reversed", _, hit.typeIs, slot_rt_next.lookup, h⟩
end
theorem walks_rs {prog : Program} {w : World} {A : Around} (hh : A.handled = none) (I : Addr) (x : Str) (t : Tok) (hsz : x.length ≤ sizeLine) :
    Walks prog w A I [I] [I] x.length (fun i v => ∃ c tk, x.cps[x.length - 1 - i]? = some c ∧ v = .str ⟨#[c]⟩ tk) (fun i h => i ≤ x.length ∧ IsRs h I x t ((x.length : Int) - 1 - (i : Int))) where
  sub := fun b hb => hb
  frame := fun _ _ _ q hk => ⟨q.1, q.2.at fun o e => hk I (by simp) o e⟩
  item := fun i s Q E hi q hQ => by
    have e : (x.length : Int) - 1 - (i : Int) = ((x.length - 1 - i : Nat) : Int) := by omega
    have hit := q.2
    rw [e] at hit
    have hlt : x.length - 1 - i < x.cps.size := by show x.length - 1 - i < x.length; omega
    have hx : x.cps[x.length - 1 - i]? = some (x.cps[x.length - 1 - i]'hlt) := Array.getElem?_eq_getElem hlt
    refine next_rs_item hit hx hsz fun h' tk hit' hs' => ?_
    have e2 : ((x.length - 1 - i : Nat) : Int) - 1 = (x.length : Int) - 1 - ((i + 1 : Nat) : Int) := by omega
    rw [e2] at hit'
    exact hQ _ h' tk ⟨_, _, hx, rfl⟩ ⟨hi, hit'⟩ fun b o hb eo => hs'.extBut b o (fun h => hb (by simp [h])) eo
  done := fun s Q E q hQ => by
    have e : (x.length : Int) - 1 - (x.length : Int) = -1 := by omega
    have hit := q.2
    rw [e] at hit
    exact next_rs_end hh hit fun h' he' => hQ h' s.toks fun b o hb eo => he' b o (fun h => hb (by simp [h])) eo
  self := fun _ _ _ _ q hQ => iter_rs q.2 hQ
section
variable {prog : Program} {w : World} {A : Around} {E : Value → Shared → Prop} {s : Shared}
theorem call_hint {it : Addr} {x : Str} {t : Tok} {Q : Value → Shared → Prop} (hit : IsRs s.heap it x t ((x.length : Int) - 1)) (hz : x.length ≤ sizeLine)
    (h : ∀ tk k, s.toks ≤ k → Q (.int x.length tk) { s with toks := k }) : wpAny (model prog w) A (call (.builtin "reversed.__length_hint__") [.ref it]) Q E s := by
  obtain ⟨o, ho, hc, hd⟩ := id hit
  refine wpAny_call_entry slot_hint hit.typeIs entry_hint ?_ (args_hint _)
  unfold Builtin.«reversed.__length_hint__»
  refine wpAny_bind (wpAny_of_eq (a := Value.ref it) rfl ?_)
  try dsimp only
  refine wpAny_bind (wpAny_field ho hd (x := .str x t) rfl ?_)
  try dsimp only
  rw [if_neg (by intro q; cases q)]
  try dsimp only
  refine wpAny_bind (P.len_str (by have := L2.line63; omega) ?_)
  refine wpAny_bind (wpAny_of_eq (a := some ((x.length : Nat) : Int)) rfl ?_)
  try dsimp only
  refine wpAny_bind (wpAny_field (s := { s with toks := s.toks + 1 + 1 }) ho hd (x := rawInt ((x.length : Int) - 1)) rfl ?_)
  try dsimp only
  have e : (x.length : Int) - 1 + 1 = x.length := by omega
  show wpAny _ _ (if (x.length : Int) < (x.length : Int) - 1 + 1 then _ else _) _ _ _
  rw [if_neg (by omega), e]
  refine wpAny_bind (wpAny_mkInt ?_)
  exact wpAny_pure ⟨_, rfl, h _ _ (by show s.toks ≤ s.toks + 1 + 1 + 1; omega)⟩
end
section
variable {prog : Program} {w : World} {A : Around} {E : Value → Shared → Prop} {s : Shared}
theorem collect_rs {I : Addr} {x : Str} {t : Tok} {Q : List Value → Shared → Prop} (hh : A.handled = none) (hz : x.length ≤ sizeLine) (hit : IsRs s.heap I x t ((x.length : Int) - 1))
    (hQ : ∀ s' acc, Moved [I] (fun a b => b = a) s s' → ItemsOf (fun i v => ∃ c tk, x.cps[x.length - 1 - i]? = some c ∧ v = .str ⟨#[c]⟩ tk) acc x.length → Q acc.toList s') : wpAny (model prog w) A (collect (.ref I)) Q E s := by
  have W := (walks_rs (prog := prog) (w := w) (A := A.in1) hh I x t hz).toS
  have hst : 0 ≤ x.length ∧ IsRs s.heap I x t ((x.length : Int) - 1 - ((0 : Nat) : Int)) := ⟨Nat.zero_le _, by rw [show ((x.length : Int) - 1 - ((0 : Nat) : Int)) = (x.length : Int) - 1 by omega]; exact hit⟩
  obtain ⟨oi, hoi, _⟩ := id hit
  have hSI : s.heap.objs.size ≠ I := Nat.ne_of_gt (Heap.lt_size hoi)
  have hSf : s.heap.objs.size ∉ [I] := by simp only [List.mem_singleton]; exact hSI
  unfold collect
  refine wpAny_bind (wpAny_runValue (codeAny_builtin F.entry_proto_collect ?_))
  rw [Around.under_plainId F.plain_proto_collect _]
  show wpAny _ A.in1 (newList [] >>= fun l => again (.builtin "list.__iadd__" ⟨[l, .ref I], []⟩)) _ _ s
  refine wpAny_bind (wpAny_newObj_type ?_)
  refine wpAny_pure ⟨plainId_quiet F.plain_list_iadd _, codeAny_builtin F.entry_list_iadd ?_⟩
  rw [Around.under_plainId F.plain_list_iadd _]
  have hit₁ : IsRs (s.heap.push { cls := .type "list", data := .seq ([] : List Value).toArray }) I x t ((x.length : Int) - 1) := hit.at fun o e => Heap.get?_push_of_some _ e
  have hT : ({ s with heap := s.heap.push { cls := .type "list", data := .seq ([] : List Value).toArray } } : Shared).TypeIs (.ref I) "reversed" := IsRs.typeIs (s := { s with heap := s.heap.push { cls := .type "list", data := .seq ([] : List Value).toArray } }) hit₁
  have hst₁ := W.frame 0 s (s.heap.push { cls := .type "list", data := .seq ([] : List Value).toArray }) s.toks hst (Nat.le_refl _) fun b _ o e => Heap.get?_push_of_some _ e
  show wpAny _ A.in1 (Builtin.List.listExtendWith (.ref s.heap.objs.size) (.ref I) (.ref s.heap.objs.size)) _ _ _
  unfold Builtin.List.listExtendWith
  refine wpAny_bind (wpAny_typeOf hT ?_)
  have h1 : Builtin.List.listSameRef (.ref s.heap.objs.size) (.ref I) = false := by simp [Builtin.List.listSameRef, hSI]
  have h2 : (Value.type "reversed" == Value.type "list") = false := by decide
  have h3 : (Value.type "reversed" == Value.type "tuple") = false := by decide
  simp only [h1, h2, h3, Bool.or_false, Bool.false_eq_true, if_false]
  refine wpAny_bind (W.self 0 _ _ _ hst₁ ?_)
  refine wpAny_bind (wpAny_holding ?_)
  unfold Builtin.List.listLengthHint
  refine wpAny_bind (wpAny_specialOf hT nolen_rev ?_)
  show wpAny _ A.in1 (specialOf (Value.ref I) (Str.ofString "__length_hint__") >>= _) _ _ _
  refine wpAny_bind (wpAny_specialOf hT slot_hint.lookup ?_)
  generalize hid : ("reversed.__length_hint__" : String) = id0
  wp_delta
  rw [show splitId id0 = some ("reversed", "__length_hint__") from by subst hid; decide +kernel]
  subst hid
  refine wpAny_bind (wpAny_isInstance (b := true) hT F.sub_reversed_self ?_)
  simp only [Bool.not_true, Bool.false_eq_true, if_false]
  rw [if_neg (by decide +kernel)]
  refine wpAny_bind (wpAny_rule ?_)
  refine wpAny_bind (wpAny_of_eq (slot_hint.bind _) ?_)
  try dsimp only
  refine wpAny_bind (wpAny_attempt (call_hint (s := { s with heap := s.heap.push { cls := .type "list", data := .seq ([] : List Value).toArray } }) hit₁ hz fun tk k hk => ?_))
  try dsimp only
  have hn63 := L2.line63
  have e0 : ((x.length : Nat) : Int) ≥ 0 := by omega
  have hfi : Builtin.List.listFitsIndex ((x.length : Nat) : Int) = true := by
    unfold Builtin.List.listFitsIndex
    rw [decide_eq_true (by omega), decide_eq_true (by omega)]; rfl
  have hlong : Builtin.List.listTooLong (((x.length : Nat) : Int)).toNat = false := L2.notLongL (by simpa using hz)
  have hm : asInt? (Value.int ((x.length : Nat) : Int) tk) = pure (some ((x.length : Nat) : Int)) := by simp only [asInt?]
  rw [hm]
  rw [pure_bind]
  try dsimp only
  rw [hfi, if_neg (by decide), if_neg (show ¬ ((x.length : Nat) : Int) < 0 by omega), hlong, if_neg (by decide)]
  refine wpAny_pure ?_
  have hS₁ : (s.heap.push { cls := .type "list", data := .seq ([] : List Value).toArray }).get? s.heap.objs.size = some { cls := .type "list", data := .seq ([] : List Value).toArray } := Heap.get?_push_size _ rfl
  have hS0 : ({ s with heap := s.heap.push { cls := .type "list", data := .seq ([] : List Value).toArray }, toks := k } : Shared).heap.get? s.heap.objs.size = some { cls := .type "list", data := .seq ([] : List Value).toArray } := hS₁
  by_cases hz0 : x.length = 0
  · rw [hz0]
    rw [if_neg (by decide +kernel)]
    refine wpAny_pure ⟨plainId_quiet F.plain_extend_loop _, codeAny_extend_loopS W hz _ hSf _ x.length 0 _ _ _ rfl (Nat.zero_le _) ⟨Nat.zero_le _, by rw [show ((x.length : Int) - 1 - ((0 : Nat) : Int)) = (x.length : Int) - 1 by omega]; exact hit₁⟩ hS0 (ItemsOf.nil _) fun s' acc' c' hm hS' hacc => ?_⟩
    show wpAny _ A (load s.heap.objs.size >>= _) _ _ s'
    refine wpAny_bind (wpAny_load hS' ?_)
    refine wpAny_pure (hQ s' acc' ?_ hacc)
    refine ⟨fun b o hb e => ?_, hm.gens, hm.drawn, hm.os, ?_⟩
    · refine hm.heap b o (fun hmem => ?_) (Heap.get?_push_of_some _ e)
      rcases List.mem_cons.mp hmem with e' | hmem
      · exact absurd (Heap.lt_size e) (by rw [e']; exact Nat.lt_irrefl _)
      · exact hb hmem
    · exact Nat.le_trans hk hm.toks
  · rw [if_pos (by
      have : (((x.length : Nat) : Int) != 0) = true := by
        rw [bne_iff_ne]; omega
      rw [this]; rfl)]
    refine wpAny_bind (wpAny_rule ?_)
    refine wpAny_bind ?_
    show wpAny _ A.in1 (updateSeq s.heap.objs.size (·.push .none) >>= fun _ => updateSeq s.heap.objs.size (·.pop)) _ _ _
    refine wpAny_bind (wpAny_updateSeq hS0 rfl ?_ (Nat.zero_le _) (Nat.succ_le_succ (Nat.zero_le _)))
    have hS₂ := Heap.get?_update_self (Obj.mapSeq (·.push Value.none)) hS₁ rfl
    refine wpAny_updateSeq hS₂ rfl ?_ (by show 1 ≤ sizeLine; decide) (Nat.zero_le _)
    have hS₃ := Heap.get?_update_self (Obj.mapSeq (·.pop)) hS₂ rfl
    have oth : ∀ b o, b ≠ s.heap.objs.size → (s.heap.push { cls := .type "list", data := .seq ([] : List Value).toArray }).get? b = some o →
        (((s.heap.push { cls := .type "list", data := .seq ([] : List Value).toArray }).update s.heap.objs.size (Obj.mapSeq (·.push Value.none))).update s.heap.objs.size (Obj.mapSeq (·.pop))).get? b = some o :=
      fun b o hb e => (Heap.get?_update_other _ _ (Ne.symm hb)).trans ((Heap.get?_update_other _ _ (Ne.symm hb)).trans e)
    have hit3 := hit₁.at fun o e => oth I o (Ne.symm hSI) e
    refine wpAny_pure ⟨plainId_quiet F.plain_extend_loop _, codeAny_extend_loopS W hz _ hSf _ x.length 0 _ _ _ rfl (Nat.zero_le _) ⟨Nat.zero_le _, by rw [show ((x.length : Int) - 1 - ((0 : Nat) : Int)) = (x.length : Int) - 1 by omega]; exact hit3⟩ hS₃ (ItemsOf.nil _) fun s' acc' c' hm hS' hacc => ?_⟩
    show wpAny _ A (load s.heap.objs.size >>= _) _ _ s'
    refine wpAny_bind (wpAny_load hS' ?_)
    refine wpAny_pure (hQ s' acc' ?_ hacc)
    refine ⟨fun b o hb e => ?_, hm.gens, hm.drawn, hm.os, ?_⟩
    · have hbs : b ≠ s.heap.objs.size := Nat.ne_of_lt (Heap.lt_size e)
      refine hm.heap b o (fun hmem => ?_) (oth b o hbs (Heap.get?_push_of_some _ e))
      rcases List.mem_cons.mp hmem with e' | hmem
      · exact hbs e'
      · exact hb hmem
    · exact Nat.le_trans hk hm.toks
end
noncomputable def one (c : Nat) : Str := ⟨#[c]⟩
theorem strs_rs {x : Str} {acc : Array Value} (h : ItemsOf (fun i v => ∃ c tk, x.cps[x.length - 1 - i]? = some c ∧ v = .str ⟨#[c]⟩ tk) acc x.length) : StrsAre acc.toList (x.cps.toList.reverse.map one) := by
  obtain ⟨h1, h2⟩ := h
  have hz : acc.toList.length = (x.cps.toList.reverse.map one).length := by simp [h1, Str.length]
  have key : ∀ (i : Nat) (v : Value), acc.toList[i]? = some v → ∃ (y : Str) (t : Tok), (x.cps.toList.reverse.map one)[i]? = some y ∧ v = .str y t := by
    intro i v hv
    have hv' : acc[i]? = some v := by simpa using hv
    have hi : i < x.length := by
      have h3 := (Array.getElem?_eq_some_iff.mp hv').1
      omega
    obtain ⟨c, tk, hc, rfl⟩ := h2 i v hv'
    refine ⟨⟨#[c]⟩, tk, ?_, rfl⟩
    have hl : x.cps.toList.length = x.length := by simp [Str.length]
    rw [List.getElem?_map, List.getElem?_reverse (by omega), hl, Array.getElem?_toList, hc]
    rfl
  generalize x.cps.toList.reverse.map one = ys at hz key
  generalize acc.toList = L at hz key
  clear h1 h2
  induction L generalizing ys with
  | nil =>
    cases ys with
    | nil => exact .nil
    | cons y r => simp at hz
  | cons v L ih =>
    cases ys with
    | nil => simp at hz
    | cons y ys =>
      obtain ⟨y', t, hy, rfl⟩ := key 0 v rfl
      have ey : y = y' := Option.some.inj hy
      subst ey
      exact .cons y t (ih ys (by simpa using hz) fun i v' hv => key (i + 1) v' (by simpa using hv))
section
variable {prog : Program} {w : World} {A : Around} {E : Value → Shared → Prop} {s : Shared}
theorem join_rs {I : Addr} {x a : Str} {t u : Tok} {Q : Value → Shared → Prop} (hh : A.handled = none) (hz : x.length ≤ sizeLine) (hit : IsRs s.heap I x t ((x.length : Int) - 1))
    (hok : x.length + x.length * a.length ≤ 16777216)
    (hq : ∀ s', Moved [I] (fun a b => b = a) s s' → ∀ t' k, Q (.str (Txt.join a (x.cps.toList.reverse.map one)) t') { s' with toks := k }) :
    wpAny (model prog w) A (call (.builtin "str.join") [.str a u, .ref I]) Q E s := by
  have hT : s.TypeIs (.ref I) "reversed" := hit.typeIs
  have hl : x.cps.toList.length = x.length := by simp [Str.length]
  have hok2 : ((x.cps.toList.reverse.map one).map (·.length)).sum + (x.cps.toList.reverse.map one).length * a.length ≤ 16777216 := by
    have e1 : ((x.cps.toList.reverse.map one).map (·.length)).sum = x.length := by
      rw [List.map_map, show ((fun y : Str => y.length) ∘ one) = fun _ => 1 from rfl]
      rw [List.map_const', List.sum_replicate_nat]
      simp [Str.length]
    rw [e1, List.length_map, List.length_reverse, hl]
    exact hok
  refine wpAny_call (codeAny_call_builtin F.slot_str_join.plain F.entry_str_join (F.slot_str_join.check _ _ _ _ _ _ _ _ (typeIs_str _ _ _) (F.args_str_join_2 _ _) ?_))
  rw [join_tree_other]
  refine wpAny_bind (wpAny_typeOf hT ?_)
  show wpAny _ A.in1 ((pyIter (.ref I)).tryCatch _ >>= fun it => collect it >>= fun items => joinTail a items) _ _ s
  refine wpAny_bind (wpAny_tryCatch (iter_rs hit ?_))
  refine wpAny_bind (collect_rs (A := A.in1) hh hz hit fun s' acc hm hacc => ?_)
  obtain ⟨l, hl2, ht⟩ := strsAre_values (strs_rs hacc)
  rw [hl2]
  rw [← ht] at hok2 hq
  have hok' := joinOk_of hok2
  unfold JoinOk at hok'
  rw [Bool.not_eq_true'] at hok'
  have g : Gives (joinTail a (strValues l)) (joinMade a l) := by
    have g0 := gives_joinTail a l hok'
    cases l with
    | nil => exact g0
    | cons p r => cases r with
      | nil => exact g0
      | cons q r' => exact g0
  exact g prog w A (wants Q E) s' (post_join l ⟨joinFit_length hok', hq s' hm⟩)
end
end RevS
namespace L2
open PySem PySem.Spec PyProof.Rows
noncomputable def tJoinRev (to te : TE) : TE := fun σ H Q => to σ H fun x H1 => (∃ a, x = .str a) ∧ te σ H1 fun v H2 => ∃ (a z : Str), x = .str a ∧ v = .str z ∧ z.length ≤ sizeLine ∧ z.length + z.length * a.length ≤ 16777216 ∧
  Q (.str (Txt.join a (z.cps.toList.reverse.map RevS.one))) H2
theorem pe_joinRev {X : Cx} {o e : Expr} {to te : TE} {apos pos p pos2 : Pos} (hc : X.calm = true) (ho : PE X o to) (hg : Gl X "reversed") (hm : X.mg "reversed" = none) (he : PE X e te)
    (hs1 : starEach [.Call (.Name "reversed" p) [e] [] pos2] X.env = [(false, eval (.Call (.Name "reversed" p) [e] [] pos2) X.env)] := by rfl)
    (hs : starEach [e] X.env = (false, eval e X.env) :: starEach [] X.env := by rfl)
    (hbase : attributeBase o "join" X.env (eval o X.env) = eval o X.env := by rfl) (hline : (apos.endLine == pos.line) = true := by rfl) :
    PE X (.Call (.Attribute o "join" apos) [.Call (.Name "reversed" p) [e] [] pos2] [] pos) (tJoinRev to te) := by
  refine ⟨fun pins s σ H Q I h => ?_⟩
  refine PySem.Call_method1 hbase hs1 hline (thn (ho.run pins s σ H _ I h) fun v s1 ⟨x, H1, I1, r1, q1⟩ => ?_)
  obtain ⟨⟨a, rfl⟩, q1⟩ := q1
  obtain ⟨t, rfl⟩ := _root_.id r1
  refine ⟨"str", _, F.plainAttrs_str, F.slot_str_join, F.type_str_join, typeIs_str _ _ _, (fun _ e => nomatch e), Calls.callWith_builtin rfl (Calls.evalArgs_plain (Calls.spliced_cons ?_))⟩
  refine Call_ (ld_blt I1 hg hm PyProof.Rows.boot_reversed (PyProof.Rows.callWith_type1 (args_cons (thn (he.run pins s1 σ H1 _ I1 q1) fun u s2 ⟨v, H2, I2, r2, q2⟩ => args_nil ?_) hs) hs rfl))
  obtain ⟨a', z, ea, ev, hz, hk, q⟩ := q2
  cases ea
  subst ev
  obtain ⟨t2, rfl⟩ := _root_.id r2
  refine RevS.call_reversed_str hz (Calls.spliced_nil ?_)
  have hit : RevS.IsRs (s2.heap.push (RevS.rsObj z t2 ((z.length : Int) - 1))) s2.heap.objs.size z t2 ((z.length : Int) - 1) := ⟨_, Heap.get?_push_size _ rfl, rfl, rfl⟩
  refine RevS.join_rs (s := { s2 with heap := s2.heap.push (RevS.rsObj z t2 ((z.length : Int) - 1)), toks := s2.toks + 1 + 1 }) (I2.ok.hd hc) hz hit hk fun s' hm' t' k => ?_
  have kp : ∀ b o, s2.heap.get? b = some o → s'.heap.get? b = some o := fun b o e => hm'.heap b o (by
    simp only [List.mem_singleton]
    exact Nat.ne_of_lt (Heap.lt_size e)) (Heap.get?_push_of_some _ e)
  rw [Moved.eq_with hm']
  exact ⟨.str _, H2, I2.kept (t' := k) kp, ⟨t', rfl⟩, q⟩
end L2
namespace SetS
open PySem PySem.Spec PyProof.Rows
noncomputable def cnt (xs : List Str) : Nat → Nat
  | 0 => 0
  | i + 1 => if (xs.take i).any (· == xs.getD i Str.empty) = true then cnt xs i else cnt xs i + 1
theorem cnt_le (xs : List Str) : ∀ i, cnt xs i ≤ i
  | 0 => Nat.le_refl _
  | i + 1 => by
    have := cnt_le xs i
    unfold cnt
    split <;> omega
noncomputable abbrev nude (b : Bool) : Obj := ⟨.type "set", none, .set #[] 0 (.fresh 0 0 b), #[]⟩
section
variable {prog : Program} {w : World} {A : Around} {E : Value → Shared → Prop}
noncomputable def Told (g : Program) (w : World) (a : Addr) (xs : List Str) (i : Nat) (h : Heap) : Prop := h.SetOf (strKind g w) a (fun z => (xs.take i).any (· == z)) (cnt xs i)
theorem Told.keep {a : Addr} {xs : List Str} {i : Nat} {h h' : Heap} (T : Told prog w a xs i h) (k : ∀ o, h.get? a = some o → h'.get? a = some o) : Told prog w a xs i h' := by
  obtain ⟨o, es, ep, tb, at', more⟩ := T
  exact ⟨o, es, ep, tb, k o at', more⟩
theorem told_next {a : Addr} {xs : List Str} {i : Nat} {h : Heap} (hi : i < xs.length)
    (T : h.SetOf (strKind prog w) a (fun z => (xs.take i).any (· == z) || decide (z = xs.getD i Str.empty)) (if (xs.take i).any (· == xs.getD i Str.empty) = true then cnt xs i else cnt xs i + 1)) : Told prog w a xs (i + 1) h := by
  refine SetOf_congr T (fun z => ?_) rfl
  have e : xs.take (i + 1) = xs.take i ++ [xs.getD i Str.empty] := by
    rw [List.take_succ, List.getElem?_eq_getElem hi, List.getD_eq_getElem?_getD, List.getElem?_eq_getElem hi]
    rfl
  rw [e, List.any_append]
  congr 1
  by_cases q : z = xs.getD i Str.empty
  · rw [decide_eq_true q, q]; simp
  · rw [decide_eq_false q]
    have : (xs.getD i Str.empty == z) = false := beq_eq_false_iff_ne.mpr fun z' => q z'.symm
    rw [List.any_cons, this]
    rfl
theorem add_str {a : Addr} {xs : List Str} {i : Nat} {u : Tok} {s : Shared} {Q : Bool → Shared → Prop} (hi : i < xs.length) (room : i + 1 < scanBound) (T : Told prog w a xs i s.heap)
    (q : ∀ h' b, Heap.SameBut a s.heap h' → Told prog w a xs (i + 1) h' → Q b ⟨h', s.gens, s.drawn, s.toks + 1, s.os⟩) : wpAny (model prog w) A (setAdd a (.str (xs.getD i Str.empty) u)) Q E s := by
  have fits := Nat.lt_of_le_of_lt (Nat.succ_le_succ (cnt_le xs i)) room
  unfold setAdd
  refine wpAny_holding (wpAny_bind ((strKind prog w).pyHash (strKind_is _ _ _ u) ?_))
  exact wpAny_setAddHashed_of (s := { s with toks := s.toks + 1 }) (strKind_is _ _ _ _) rfl T fits fun h' same T2 => q h' _ same (told_next hi T2)
theorem fill {R : Result → Shared → Prop} {it a : Addr} {fp wr : List Addr} {G : Array GenState → Array GenState → Prop} {P : Nat → Value → Prop} {St : Nat → Shared → Prop} (xs : List Str)
    (W : WalksS prog w A.in1 it fp wr G xs.length P St) (ha : a ∉ fp) (room : xs.length < scanBound) (each : ∀ i v, P i v → ∃ u, v = .str (xs.getD i Str.empty) u) :
    ∀ (j i : Nat) (s : Shared), i + j = xs.length → St i s → Told prog w a xs i s.heap → (∀ z, Moved (a :: wr) G s z → Told prog w a xs xs.length z.heap → R (.ok (.ret .none)) z) →
      codeAny (model prog w) A (.builtin "set.update.loop" ⟨[.ref a, .ref it], []⟩) R s := by
  have out : a ∉ wr := fun z => ha (W.sub a z)
  have more : ∀ {s z : Shared}, Moved wr G s z → Moved (a :: wr) G s z := fun m => m.mono fun b hb => .tail _ hb
  intro j
  induction j with
  | zero =>
    intro i s e st T fin
    obtain rfl : i = xs.length := by omega
    refine codeAny_builtin F.entry_set_update_loop ?_
    rw [Around.under_plainId F.plain_set_update_loop _]
    refine wpAny_bind (f := fun x => _) (W.done s _ _ st fun z m => ?_)
    exact wpAny_pure (M := model prog w) (A := A.in1) (fin z (more m) (T.keep fun o h => m.heap a o out h))
  | succ j ih =>
    intro i s e st T fin
    have lt : i < xs.length := by omega
    refine codeAny_builtin F.entry_set_update_loop ?_
    rw [Around.under_plainId F.plain_set_update_loop _]
    refine wpAny_bind (f := fun x => _) (W.item i s _ _ lt st fun v z hv st' m => ?_)
    obtain ⟨u, rfl⟩ := each i v hv
    refine wpAny_bind (f := fun x => _) (wpAny_holding (add_str lt (by omega) (T.keep fun o h => m.heap a o out h) fun h' b same T' => ?_))
    refine wpAny_pure (M := model prog w) (A := A.in1) ⟨plainId_quiet F.plain_set_update_loop _, ih (i + 1) _ (by omega) (W.frame _ z _ _ st' (Nat.le_succ _) fun b hb o h => (same.2 b fun q => ha (q ▸ hb)).trans h) T' fun z' m' T2 => fin z' ?_ T2⟩
    exact ((more m).then_heap (Nat.le_succ _) fun b o hb h => (same.2 b fun q => hb (q ▸ List.mem_cons_self ..)).trans h).trans W.gtrans m'
end
section
variable {prog : Program} {w : World} {A : Around} {E : Value → Shared → Prop} {s : Shared}
set_option maxHeartbeats 3200000 in
theorem make {x : Str} {t : Tok} {Q : Value → Shared → Prop} (led0 : A.handled = none) (room : x.length < scanBound)
    (q : ∀ (h' : Heap) (tk : Nat), Told prog w s.heap.objs.size (signs x) (signs x).length h' → (∀ b o, s.heap.get? b = some o → h'.get? b = some o) → Q (.ref s.heap.objs.size) { s with heap := h', toks := tk }) :
    wpAny (model prog w) A (call (.type "set") [.str x t]) Q E s := by
  obtain ⟨c0, rest, mro⟩ := PySem.F.called_set.mro
  have c1 := PySem.F.called_set.made
  have c2 := PySem.F.called_set.sub
  have c3 := PySem.F.called_set.notType
  have c4 := PySem.F.called_set.canCreate
  have c5 := PySem.F.typeCall_set_1 (.str x t)
  refine wpAny_call (codeAny_of_tree ?_)
  show wpAny _ _ (callAny (.type "set") _) _ _ _
  refine wpAny_pure ⟨Code.quiet_builtin _ (by decide +kernel), codeAny_builtin PySem.F.entry_type_call ?_⟩
  rw [Around.under_plain (weight_type_call_type "set" [.str x t] []) rfl]
  repeat (any_goals (first | assumption | wp_step))
  refine codeAny_mono (code_set_new_1 (.str x t) (E := E) (Q₁ := fun v z => ∃ b, v = .ref s.heap.objs.size ∧ z = { s with heap := s.heap.push (nude b) }) fun b => ⟨b, rfl, rfl⟩) fun r z hr => ?_
  cases r with
  | error e => exact hr
  | ok fl =>
    cases fl with
    | ret v =>
      obtain ⟨b, rfl, rfl⟩ := hr
      have here : (s.heap.push (nude b)).get? s.heap.objs.size = some (nude b) := Heap.get?_push_size _ rfl
      have kind : Shared.TypeIs { s with heap := s.heap.push (nude b) } (.ref s.heap.objs.size) "set" := ⟨_, here, rfl⟩
      have c6 := PySem.F.called_set.init.lookup
      have c7 := PySem.F.called_set.init.bind (.ref s.heap.objs.size)
      repeat (any_goals (first | assumption | wp_step))
      refine codeAny_mono (codeAny_call_builtin (R := wants (fun r z => r = .none ∧ ∃ h' tk, z = { s with heap := h', toks := tk } ∧ Told prog w s.heap.objs.size (signs x) (signs x).length h' ∧ (∀ b o, s.heap.get? b = some o → h'.get? b = some o)) E)
        PySem.F.called_set.init.plain PySem.F.entry_set_init (check_set_init_1 kind ?_)) fun r z hr => ?_
      · have n1 := PySem.F.sub_str_set
        have n2 := PySem.F.sub_str_frozenset
        have n3 : (Value.type "str" == Value.type "dict") = false := by decide
        unfold Builtin.«set.__init__» noKeywords Builtin.Frozenset.updateFrom
        generalize hI : pyIter = I
        wp_walk
        subst hI
        refine wpAny_pyIter_str fun o St W st => ?_
        refine wpAny_bind (wpAny_runValue ?_)
        have led3 : A.in1.in1.in1.handled = none := by simp [led0]
        have here2 := Heap.get?_push_of_some o here
        have ln : (signs x).length = x.cps.size := signs_length x
        have sz : (s.heap.push (nude b)).objs.size = s.heap.objs.size + 1 := Heap.size_push ..
        have apart : s.heap.objs.size ∉ [(s.heap.push (nude b)).objs.size] := fun hb => by
          have hb := List.mem_singleton.mp hb
          rw [sz] at hb
          omega
        have each : ∀ i v, SignAt x i v → ∃ u, v = .str ((signs x).getD i Str.empty) u := fun i v ⟨c, u, hc, ev⟩ => ⟨u, by rw [ev, List.getD_eq_getElem?_getD, signs_get hc]; rfl⟩
        have none' : Told prog w s.heap.objs.size (signs x) 0 ((s.heap.push (nude b)).push o) := SetOf_congr ((setObjOf_fresh (knd := strKind prog w) b).setOf here2 (by unfold scanBound; omega)) (fun _ => rfl) rfl
        refine fill (signs x) (ln ▸ (W _ led3).toS) apart (by rw [ln]; exact room) each _ 0 _ (Nat.zero_add _) st none' fun z m T => ?_
        obtain ⟨h', g', d', tk', os'⟩ := z
        obtain rfl : g' = s.gens := m.gens
        obtain rfl : d' = s.drawn := m.drawn
        obtain rfl : os' = s.os := m.os
        refine wpAny_pure (M := model prog w) ?_
        refine wpAny_pure (M := model prog w) ⟨rfl, h', tk', rfl, T, fun b' o' e => m.heap b' o' ?_ (Heap.get?_push_of_some _ (Heap.get?_push_of_some _ e))⟩
        have lt := Heap.lt_size e
        rw [sz]
        simp only [List.mem_cons, List.not_mem_nil, or_false, not_or]
        exact ⟨Nat.ne_of_lt lt, Nat.ne_of_lt (Nat.lt_succ_of_lt lt)⟩
      · cases r with
        | error e => exact hr
        | ok fl =>
          cases fl with
          | ret v =>
            obtain ⟨rfl, h', tk, rfl, T, keep⟩ := hr
            repeat (any_goals (first | assumption | wp_step))
            exact q _ _ T keep
          | _ => exact hr.elim
    | _ => exact hr.elim
end
end SetS
namespace L2
open PySem PySem.Spec PyProof.Rows
noncomputable def tLenSetS (ta : TE) : TE := fun σ H Q => ta σ H fun v H1 => ∃ x : Str, v = .str x ∧ x.length < scanBound ∧ Q (.int (SetS.cnt (signs x) (signs x).length : Nat)) H1
section
variable {X : Cx}
theorem pe_lenSetS {a : Expr} {ta : TE} {p p2 q pos : Pos} (calm : X.calm = true) (g1 : Gl X "len") (m1 : X.mg "len" = none) (g2 : Gl X "set") (m2 : X.mg "set" = none) (ha : PE X a ta)
    (st : starEach [a] X.env = (false, eval a X.env) :: starEach [] X.env := by rfl) : PE X (.Call (.Name "len" p) [.Call (.Name "set" p2) [a] [] q] [] pos) (tLenSetS ta) := by
  refine ⟨fun pins s σ H Q I h => Call_ (ld_blt I g1 m1 boot_len (callWith_builtin1 (args_cons ?_ rfl) rfl rfl))⟩
  refine Call_ (ld_blt I g2 m2 boot_set (callWith_type1 (args_cons (thn (ha.run pins s σ H _ I h) fun v z ⟨y, H1, I1, r1, x, ex, room, q1⟩ => args_nil ?_) st) st rfl))
  subst ex
  obtain ⟨t, rfl⟩ := r1
  refine SetS.make (I1.ok.hd calm) room fun h' tk T keep => args_nil ?_
  obtain ⟨o, es, ep, tb, at', exact', data, _, _, _, fit, many⟩ := T
  have small : SetS.cnt (signs x) (signs x).length < scanBound := Nat.lt_of_le_of_lt (SetS.cnt_le _ _) (by rw [signs_length]; exact room)
  have I2 : Inv X pins σ H1 { z with heap := h', toks := tk } := I1.kept keep
  exact call_len_set at' exact' data fit (by rw [many]; unfold scanBound at small; omega) ⟨.int (SetS.cnt (signs x) (signs x).length : Nat), H1, I2.tok _, ⟨_, by rw [many]⟩, q1⟩
end
end L2
namespace Tw
def aRfl : Lean.Syntax := .node .none `Lean.Parser.Tactic.tacticSeq #[.node .none `Lean.Parser.Tactic.tacticSeq1Indented #[.node .none `null #[.node .none `Lean.Parser.Tactic.tacticRfl #[.atom .none "rfl"]]]]
open PySem PySem.Spec PyProof.Rows L2 TL
class Rep (α : Type) where
  rp : PySem.W.Frag → Hp → V → α → Prop
  mono : ∀ {K : PySem.W.Frag} {F F' : Hp} {v : V} {x : α}, Same F F' → rp K F v x → rp K F' v x
noncomputable abbrev rp {α : Type} {i : Rep α} (K : PySem.W.Frag) (F : Hp) (v : V) (x : α) : Prop := i.rp K F v x
noncomputable abbrev Tx := List Nat
noncomputable def sx (x : Tx) : Str := ⟨x.toArray⟩
theorem tl_sx (x : Tx) : tl (sx x) = x := rfl
theorem sx_inj {x y : Tx} (h : sx x = sx y) : x = y := by have := congrArg tl h; simpa [tl_sx] using this
theorem sx_len (x : Tx) : (sx x).length = x.length := by rw [len_tl]; rfl
theorem sx_app (x y : Tx) : sx x ++ sx y = sx (x ++ y) := ext_tl (by rw [tl_append]; rfl)
noncomputable instance repInt : Rep Int := ⟨fun _ _ v x => v = .int x, fun _ h => h⟩
noncomputable instance repBool : Rep Bool := ⟨fun _ _ v x => v = .bl x, fun _ h => h⟩
noncomputable instance repUnit : Rep Unit := ⟨fun _ _ v _ => v = .non, fun _ h => h⟩
noncomputable instance repTx : Rep (List Nat) := ⟨fun _ _ v x => v = .str (sx x), fun _ h => h⟩
noncomputable instance repList {α : Type} [i : Rep α] : Rep (List α) := ⟨fun K H v xs => ∃ a vs, v = .ref a ∧ H a = some (.lst vs) ∧ Paired (fun u x => i.rp K H u x) vs xs,
  fun s ⟨a, vs, e, h, p⟩ => ⟨a, vs, e, s _ _ h, Paired.mapP p fun _ _ q => i.mono s q⟩⟩
set_option genInjectivity true in
structure Tup (α : Type) where
  l : List α
noncomputable instance repTup {α : Type} [i : Rep α] : Rep (Tup α) := ⟨fun K H v xs => ∃ a vs, v = .ref a ∧ H a = some (.tup vs) ∧ Paired (fun u x => i.rp K H u x) vs xs.l,
  fun s ⟨a, vs, e, h, p⟩ => ⟨a, vs, e, s _ _ h, Paired.mapP p fun _ _ q => i.mono s q⟩⟩
noncomputable instance repPair {α β : Type} [i : Rep α] [j : Rep β] : Rep (α × β) := ⟨fun K H v x => ∃ a u w, v = .ref a ∧ H a = some (.tup [u, w]) ∧ i.rp K H u x.1 ∧ j.rp K H w x.2,
  fun s ⟨a, u, w, e, h, p, q⟩ => ⟨a, u, w, e, s _ _ h, i.mono s p, j.mono s q⟩⟩
noncomputable instance repOpt {α : Type} [i : Rep α] : Rep (Option α) := ⟨fun K H v x => match x with | none => v = .non | some y => i.rp K H v y,
  fun {K F F' v x} s h => by cases x with | none => exact h | some y => exact i.mono s h⟩
structure Scr where
  l : List Int
noncomputable instance repScr : Rep Scr := ⟨fun K H v x => ∃ a, v = .ref a ∧ SqL K H a (x.l.map V.int), fun s ⟨a, e, h⟩ => ⟨a, e, s.seq h⟩⟩
noncomputable abbrev Rps {α : Type} [i : Rep α] (K : PySem.W.Frag) (F : Hp) (vs : List V) (xs : List α) : Prop := Paired (fun u x => i.rp K F u x) vs xs
section
variable {α β : Type} [i : Rep α] [j : Rep β] {K : PySem.W.Frag} {F F' : Hp} {vs : List V} {xs : List α}
theorem Rps.mono (s : Same F F') (h : Rps K F vs xs) : Rps K F' vs xs := Paired.mapP h fun _ _ q => i.mono s q
theorem Rps.len (h : Rps K F vs xs) : vs.length = xs.length := Paired.length h
theorem pgetL {A B : Type} {G : A → B → Prop} : ∀ {l : List A} {m : List B} {k : Nat} {b : B}, Paired G l m → m[k]? = some b → ∃ a, l[k]? = some a ∧ G a b
  | _, _, 0, _, .cons r _, e => by simp at e; subst e; exact ⟨_, rfl, r⟩
  | _, _, k + 1, b, .cons _ t, e => by
    obtain ⟨a, h1, h2⟩ := pgetL (k := k) (b := b) t (by simpa using e)
    exact ⟨a, by simpa using h1, h2⟩
theorem ptake {A B : Type} {G : A → B → Prop} : ∀ {l : List A} {m : List B} (n : Nat), Paired G l m → Paired G (l.take n) (m.take n)
  | _, _, 0, _ => .nil
  | _, _, _ + 1, .nil => .nil
  | _, _, n + 1, .cons r t => .cons r (ptake n t)
theorem pdrop {A B : Type} {G : A → B → Prop} : ∀ {l : List A} {m : List B} (n : Nat), Paired G l m → Paired G (l.drop n) (m.drop n)
  | _, _, 0, r => r
  | _, _, _ + 1, .nil => .nil
  | _, _, n + 1, .cons _ t => pdrop n t
theorem papp {A B : Type} {G : A → B → Prop} : ∀ {l l' : List A} {m m' : List B}, Paired G l m → Paired G l' m' → Paired G (l ++ l') (m ++ m')
  | _, _, _, _, .nil, s => s
  | _, _, _, _, .cons r t, s => .cons r (papp t s)
theorem Rps.ints {ns : List Int} : ∀ {vs : List V}, Paired (fun u x => repInt.rp K F u x) vs ns → vs = ns.map V.int := by
  induction ns with
  | nil => intro vs h; cases h; rfl
  | cons n ns ih =>
    intro vs h
    cases h with
    | cons r t =>
      obtain rfl : _ = V.int n := r
      rw [ih t]
      rfl
theorem Rps.bls {ns : List Bool} : ∀ {vs : List V}, Paired (fun u x => repBool.rp K F u x) vs ns → vs = ns.map V.bl := by
  induction ns with
  | nil => intro vs h; cases h; rfl
  | cons n ns ih =>
    intro vs h
    cases h with
    | cons r t =>
      obtain rfl : _ = V.bl n := r
      rw [ih t]
      rfl
theorem Rps.strs {ns : List Tx} : ∀ {vs : List V}, Paired (fun u x => repTx.rp K F u x) vs ns → vs = (ns.map sx).map V.str := by
  induction ns with
  | nil => intro vs h; cases h; rfl
  | cons n ns ih =>
    intro vs h
    cases h with
    | cons r t =>
      obtain rfl : _ = V.str (sx n) := r
      rw [ih t]
      rfl
end
structure ExtM (M : Addr → Prop) (F H F' H' : Hp) : Prop where
  ff : Same F F'
  fh : Same F' H'
  hh : ∀ b o, ¬ M b → H b = some o → H' b = some o
  nwM : ∀ a, ¬ M a → F a = none → H a ≠ none → F' a = none
  th : ∀ a, M a → H a ≠ none → H' a ≠ none
noncomputable abbrev M0 : Addr → Prop := fun _ => False
noncomputable abbrev Ext := ExtM M0
theorem Ext.hs {F H F' H' : Hp} (e : Ext F H F' H') : Same H H' := fun b o h => e.hh b o (fun z => z) h
theorem Ext.refl {F H : Hp} (h : Same F H) : Ext F H F H := ⟨Same.refl F, h, fun _ _ _ h => h, fun _ _ h _ => h, fun _ z => z.elim⟩
theorem ExtM.nw {F H F' H' : Hp} (e : Ext F H F' H') (a : Addr) (h1 : F a = none) (h2 : H a ≠ none) : F' a = none := e.nwM a (fun z => z) h1 h2
theorem ExtM.trans {M : Addr → Prop} {F H F1 H1 F2 H2 : Hp} (a : ExtM M F H F1 H1) (b : Ext F1 H1 F2 H2) : ExtM M F H F2 H2 :=
  have keep : ∀ x, H1 x ≠ none → H2 x ≠ none := fun x h z => by
    cases q : H1 x with
    | none => exact h q
    | some o => rw [b.hs _ _ q] at z; cases z
  ⟨a.ff.trans b.ff, b.fh, fun x o hx h => b.hs _ _ (a.hh x o hx h), fun x hx h1 h2 => b.nw x (a.nwM x hx h1 h2) (by
    intro z
    cases q : H x with
    | none => exact h2 q
    | some o => rw [a.hh x o hx q] at z; cases z), fun x hx h => keep x (a.th x hx h)⟩
theorem Ext.trans {F H F1 H1 F2 H2 : Hp} (a : Ext F H F1 H1) (b : Ext F1 H1 F2 H2) : Ext F H F2 H2 := ExtM.trans a b
theorem Ext.new {F H : Hp} (h : Same F H) {p : Addr} {o : HO} (hp : H p = none) : Ext F H (upd F p o) (upd H p o) := by
  have fp : F p = none := h.free hp
  refine ⟨fun b u e => ?_, fun b u e => ?_, fun b u _ e => ?_, fun b _ e ne => ?_, fun _ z => z.elim⟩
  · rw [upd_ne (ne_of_none e fp)]; exact e
  · by_cases hb : b = p
    · subst hb; rw [upd_same] at e ⊢; exact e
    · rw [upd_ne hb] at e ⊢; exact h _ _ e
  · rw [upd_ne (ne_of_none e hp)]; exact e
  · rw [upd_ne (fun z => by subst z; exact ne hp)]; exact e
theorem Ext.apart {F H : Hp} (h : Same F H) {p : Addr} {o : HO} (hp : H p = none) : Ext F H F (upd H p o) :=
  ⟨Same.refl F, fun b u e => by rw [upd_ne (ne_of_none (h _ _ e) hp)]; exact h _ _ e, fun b u _ e => by rw [upd_ne (ne_of_none e hp)]; exact e, fun _ _ e _ => e, fun _ z => z.elim⟩
theorem same_upd {F H : Hp} (h : Same F H) {p : Addr} {o : HO} (fp : F p = none) : Same F (upd H p o) := fun b u e => by
  rw [upd_ne (ne_of_none e fp)]; exact h _ _ e
structure Own where
  fp : List Addr
  root : V
  ok : PySem.W.Frag → Hp → Hp → V → Prop
  stay : ∀ {K : PySem.W.Frag} {F F' H H' : Hp} {v : V}, Same F F' → (∀ b ∈ fp, ∀ o, H b = some o → H' b = some o) → ok K F H v → ok K F' H' v
  there : ∀ {K : PySem.W.Frag} {F H : Hp} {v : V}, ok K F H v → ∀ b ∈ fp, H b ≠ none
  rt : ∀ {K : PySem.W.Frag} {F H : Hp} {v : V}, ok K F H v → v = root
noncomputable def ownL {α : Type} (i : Rep α) (a : Addr) (xs : List α) : Own where
  fp := [a]
  root := .ref a
  ok := fun K F H v => v = .ref a ∧ ∃ vs, H a = some (.lst vs) ∧ Paired (fun u x => i.rp K F u x) vs xs
  stay := fun s k ⟨e, vs, h, p⟩ => ⟨e, vs, k a (List.mem_singleton.mpr rfl) _ h, Paired.mapP p fun _ _ q => i.mono s q⟩
  there := fun ⟨_, vs, h, _⟩ b hb z => by rw [List.mem_singleton.mp hb, h] at z; cases z
  rt := fun h => h.1
set_option genInjectivity true in
inductive Slot : Type 1 where
  | no
  | val {α : Type} (i : Rep α) (x : α)
  | own (o : Own)
noncomputable abbrev Slot.lst {α : Type} (i : Rep α) (a : Addr) (xs : List α) : Slot := .own (ownL i a xs)
noncomputable abbrev vl {α : Type} [i : Rep α] (x : α) : Slot := .val i x
noncomputable abbrev ls {α : Type} [i : Rep α] (a : Addr) (xs : List α) : Slot := .lst i a xs
set_option genInjectivity true in
inductive Ret : Type 1 where
  | val {α : Type} (i : Rep α) (x : α)
  | new {α : Type} (i : Rep α) (xs : List α)
  | own (P : Own → Prop)
  | chg {α : Type} (i : Rep α) (x : α) (os : List Own)
noncomputable abbrev rv {α : Type} [i : Rep α] (x : α) : Ret := .val i x
noncomputable abbrev rn {α : Type} [i : Rep α] (xs : List α) : Ret := .new i xs
structure Bs where
  F : Hp
  H : Hp
  M : Addr → Prop
noncomputable def Bs.nw (B : Bs) (b : Addr) : Prop := B.H b = none ∨ B.M b
noncomputable def SlotOk (K : PySem.W.Frag) (B : Bs) (F H : Hp) (ov : Option V) : Slot → Prop
  | .no => True
  | .val i x => ∃ v, ov = some v ∧ i.rp K F v x
  | .own o => ∃ v, ov = some v ∧ o.ok K F H v ∧ ∀ b ∈ o.fp, F b = none ∧ B.nw b
noncomputable def Slot.isOwn : Slot → Bool
  | .own _ => true
  | _ => false
noncomputable def Apart (Γ : List Slot) : Prop := ∀ (i j : Nat) o1 o2, i ≠ j → Γ[i]? = some (.own o1) → Γ[j]? = some (.own o2) → ∀ b ∈ o1.fp, b ∉ o2.fp
structure Lc (K : PySem.W.Frag) (B : Bs) (F H : Hp) (σ : L2.St) (Γ : List Slot) : Prop where
  ext : ExtM B.M B.F B.H F H
  len : σ.length = Γ.length
  ok : ∀ (i : Nat) s, Γ[i]? = some s → SlotOk K B F H (σ[i]?).join s
  ap : Apart Γ
section
variable {K : PySem.W.Frag} {B : Bs} {F H F' H' : Hp} {σ : L2.St} {Γ : List Slot} {α : Type} {i : Rep α}
theorem Lc.same (L : Lc K B F H σ Γ) : Same F H := L.ext.fh
theorem Lc.there (L : Lc K B F H σ Γ) : ∀ x, B.M x → B.H x ≠ none → H x ≠ none := L.ext.th
theorem Lc.nw (L : Lc K B F H σ Γ) {b : Addr} (h : H b = none) : B.nw b := by
  by_cases hm : B.M b
  · exact .inr hm
  · refine .inl ?_
    cases q : B.H b with
    | none => rfl
    | some o => rw [L.ext.hh b o hm q] at h; cases h
theorem SlotOk.step {ov : Option V} {s : Slot} (e : Ext F H F' H') (h : SlotOk K B F H ov s) : SlotOk K B F' H' ov s := by
  cases s with
  | no => trivial
  | val i x => obtain ⟨v, e1, r⟩ := h; exact ⟨v, e1, i.mono e.ff r⟩
  | own o =>
    obtain ⟨v, e1, ok, f⟩ := h
    exact ⟨v, e1, o.stay e.ff (fun b _ u q => e.hs _ _ q) ok, fun b hb => ⟨e.nw b (f b hb).1 (o.there ok b hb), (f b hb).2⟩⟩
theorem Lc.step (L : Lc K B F H σ Γ) (e : Ext F H F' H') : Lc K B F' H' σ Γ := ⟨L.ext.trans e, L.len, fun j s h => (L.ok j s h).step e, L.ap⟩
theorem slot_val {k : Nat} {x : α} (L : Lc K B F H σ Γ) (h : Γ[k]? = some (.val i x)) : ∃ v, σ[k]? = some (some v) ∧ i.rp K F v x := by
  obtain ⟨v, e, r⟩ := L.ok k _ h
  refine ⟨v, ?_, r⟩
  cases q : σ[k]? with
  | none => rw [q] at e; cases e
  | some o => rw [q] at e; rw [← e]; rfl
theorem slot_own {k : Nat} {o : Own} (L : Lc K B F H σ Γ) (h : Γ[k]? = some (.own o)) : ∃ v, σ[k]? = some (some v) ∧ o.ok K F H v ∧ ∀ b ∈ o.fp, F b = none ∧ B.nw b := by
  obtain ⟨v, e, r⟩ := L.ok k _ h
  refine ⟨v, ?_, r⟩
  cases q : σ[k]? with
  | none => rw [q] at e; cases e
  | some o => rw [q] at e; rw [← e]; rfl
theorem slot_lst {k : Nat} {a : Addr} {xs : List α} (L : Lc K B F H σ Γ) (h : Γ[k]? = some (.lst i a xs)) :
    ∃ vs, σ[k]? = some (some (.ref a)) ∧ F a = none ∧ B.nw a ∧ H a = some (.lst vs) ∧ Paired (fun u x => i.rp K F u x) vs xs := by
  obtain ⟨v, e, ⟨rfl, vs, h1, p⟩, f⟩ := slot_own L h
  exact ⟨vs, e, (f a (List.mem_singleton.mpr rfl)).1, (f a (List.mem_singleton.mpr rfl)).2, h1, p⟩
theorem get_set_join {σ : L2.St} {k j : Nat} {o : Option V} : ((σ.set k o)[j]?).join = if k = j ∧ j < σ.length then o else (σ[j]?).join := by
  by_cases h : k = j
  · subst h
    by_cases hl : k < σ.length
    · rw [List.getElem?_set_self hl, if_pos ⟨rfl, hl⟩]; rfl
    · rw [List.getElem?_eq_none (by simpa using hl), if_neg (fun z => hl z.2), List.getElem?_eq_none (by simpa using hl)]
  · rw [List.getElem?_set_ne h, if_neg (fun z => h z.1)]
theorem get_set_slot {Γ : List Slot} {k j : Nat} {o s : Slot} (h : (Γ.set k o)[j]? = some s) : (k = j ∧ j < Γ.length ∧ s = o) ∨ (k ≠ j ∧ Γ[j]? = some s) := by
  by_cases e : k = j
  · subst e
    have hl : k < Γ.length := by
      have := (List.getElem?_eq_some_iff.mp h).1
      simpa using this
    rw [List.getElem?_set_self hl] at h
    exact .inl ⟨rfl, hl, (Option.some.inj h).symm⟩
  · rw [List.getElem?_set_ne e] at h
    exact .inr ⟨e, h⟩
theorem Apart.put (A : Apart Γ) (k : Nat) {s : Slot} (hs : s.isOwn = false) : Apart (Γ.set k s) := fun i j o1 o2 hij h1 h2 => by
  rcases get_set_slot h1 with ⟨_, _, e⟩ | ⟨_, h1⟩
  · rw [← e] at hs; cases hs
  rcases get_set_slot h2 with ⟨_, _, e⟩ | ⟨_, h2⟩
  · rw [← e] at hs; cases hs
  exact A i j o1 o2 hij h1 h2
theorem Apart.putO (A : Apart Γ) (k : Nat) {o : Own} (h : ∀ (j : Nat) o', k ≠ j → Γ[j]? = some (.own o') → ∀ b ∈ o.fp, b ∉ o'.fp) : Apart (Γ.set k (.own o)) := fun i j o1 o2 hij h1 h2 b hb1 hb2 => by
  rcases get_set_slot h1 with ⟨k1, _, e⟩ | ⟨n1, h1⟩
  · cases e
    rcases get_set_slot h2 with ⟨k2, _, e⟩ | ⟨n2, h2⟩
    · exact hij (k1.symm.trans k2)
    · exact h j o2 n2 h2 b hb1 hb2
  · rcases get_set_slot h2 with ⟨k2, _, e⟩ | ⟨n2, h2⟩
    · cases e
      exact h i o1 n1 h1 b hb2 hb1
    · exact A i j o1 o2 hij h1 h2 b hb1 hb2
theorem Lc.put (L : Lc K B F H σ Γ) (k : Nat) {ov : Option V} {s : Slot} (hs : s.isOwn = false) (ho : SlotOk K B F H ov s) : Lc K B F H (σ.set k ov) (Γ.set k s) := by
  refine ⟨L.ext, by simp [L.len], fun j t h => ?_, L.ap.put k hs⟩
  rw [get_set_join]
  rcases get_set_slot h with ⟨e1, e2, rfl⟩ | ⟨e1, h⟩
  · rw [if_pos ⟨e1, by rw [L.len]; exact e2⟩]; exact ho
  · rw [if_neg fun z => e1 z.1]; exact L.ok j t h
theorem Lc.putV (L : Lc K B F H σ Γ) (k : Nat) {v : V} {x : α} (r : i.rp K F v x) : Lc K B F H (σ.set k (some v)) (Γ.set k (.val i x)) := L.put k rfl ⟨v, rfl, r⟩
theorem Lc.putN (L : Lc K B F H σ Γ) (k : Nat) (o : Option V) : Lc K B F H (σ.set k o) (Γ.set k .no) := L.put k rfl trivial
theorem Lc.ne_own (L : Lc K B F H σ Γ) {b : Addr} (hb : H b = none) {j : Nat} {o : Own} (h : Γ[j]? = some (.own o)) : b ∉ o.fp := fun hm => by
  obtain ⟨v, _, ok, _⟩ := slot_own L h
  exact o.there ok b hm hb
theorem Lc.putO (L : Lc K B F H σ Γ) (k : Nat) (e : Ext F H F' H') {o : Own} {v : V} (new : ∀ b ∈ o.fp, H b = none ∧ F' b = none) (ok : o.ok K F' H' v) : Lc K B F' H' (σ.set k (some v)) (Γ.set k (.own o)) := by
  have L' := L.step e
  refine ⟨L'.ext, by simp [L.len], fun j t h => ?_, L.ap.putO k fun j o' _ h b hb => L.ne_own (new b hb).1 h⟩
  rw [get_set_join]
  rcases get_set_slot h with ⟨e1, e2, rfl⟩ | ⟨e1, h⟩
  · rw [if_pos ⟨e1, by rw [L.len]; exact e2⟩]
    exact ⟨v, rfl, ok, fun b hb => ⟨(new b hb).2, L.nw (new b hb).1⟩⟩
  · rw [if_neg fun z => e1 z.1]; exact L'.ok j t h
theorem Lc.putL (L : Lc K B F H σ Γ) (k : Nat) (e : Ext F H F' H') {a : Addr} {vs : List V} {xs : List α} (ha : H a = none) (fa : F' a = none) (h' : H' a = some (.lst vs)) (p : Paired (fun u x => i.rp K F' u x) vs xs) :
    Lc K B F' H' (σ.set k (some (.ref a))) (Γ.set k (.lst i a xs)) := L.putO k e (fun b hb => by rw [List.mem_singleton.mp hb]; exact ⟨ha, fa⟩) ⟨rfl, vs, h', p⟩
theorem Lc.updO (L : Lc K B F H σ Γ) {k : Nat} {o o' : Own} {v : V} (hk : Γ[k]? = some (.own o)) (hv : σ[k]? = some (some v)) (keep : ∀ b u, b ∉ o.fp → H b = some u → H' b = some u) (old : ∀ b ∈ o.fp, H' b ≠ none)
    (fp : ∀ b ∈ o'.fp, b ∈ o.fp ∨ H b = none) (ok : o'.ok K F H' v) : Lc K B F H' σ (Γ.set k (.own o')) := by
  obtain ⟨_, _, _, f⟩ := slot_own L hk
  have nfp : ∀ b u, F b = some u → b ∉ o.fp := fun b u q hb => by rw [(f b hb).1] at q; cases q
  refine ⟨⟨L.ext.ff, fun b u q => keep b u (nfp b u q) (L.same _ _ q), fun b u nb q => ?_, L.ext.nwM, fun x hx hb => ?_⟩, by simp [L.len], fun q t h => ?_, L.ap.putO k fun j o2 hj h b hb => ?_⟩
  · refine keep b u (fun hb => ?_) (L.ext.hh b u nb q)
    rcases (f b hb).2 with z | z
    · rw [z] at q; cases q
    · exact nb z
  · by_cases hm : x ∈ o.fp
    · exact old x hm
    · have := L.there x hx hb
      cases q : H x with
      | none => exact absurd q this
      | some u => rw [keep x u hm q]; exact fun z => nomatch z
  · rcases get_set_slot h with ⟨e1, e2, rfl⟩ | ⟨e1, hq⟩
    · subst e1
      rw [hv]
      refine ⟨v, rfl, ok, fun b hb => ?_⟩
      rcases fp b hb with z | z
      · exact f b z
      · exact ⟨L.same.free z, L.nw z⟩
    · have old' := L.ok q t hq
      cases t with
      | no => trivial
      | val i x => exact old'
      | own o2 =>
        obtain ⟨u, eu, ok2, f2⟩ := old'
        exact ⟨u, eu, o2.stay (Same.refl F) (fun b hb w q1 => keep b w (fun hb2 => L.ap k q o o2 e1 hk hq b hb2 hb) q1) ok2, f2⟩
  · rcases fp b hb with z | z
    · exact L.ap k j o o2 hj hk h b z
    · exact L.ne_own z h
theorem Lc.updL (L : Lc K B F H σ Γ) {k : Nat} {a : Addr} {β : Type} {j : Rep β} {ys : List β} {vs' : List V} {xs' : List α} (hk : Γ[k]? = some (.lst j a ys)) (p : Paired (fun u x => i.rp K F u x) vs' xs') :
    Lc K B F (upd H a (.lst vs')) σ (Γ.set k (.lst i a xs')) := by
  obtain ⟨vs, ea, _⟩ := slot_lst L hk
  refine L.updO hk ea (fun b u hb q => ?_) (fun b hb => ?_) (fun b hb => .inl hb) ⟨rfl, vs', upd_same, p⟩
  · rw [upd_ne (fun z => hb (List.mem_singleton.mpr z))]; exact q
  · rw [List.mem_singleton.mp hb, upd_same]; exact fun z => nomatch z
end
section
variable {X : Cx} {σ : L2.St} {H : Hp}
structure WE (X : Cx) (e : Expr) (σ : L2.St) (H : Hp) (Q : VK) : Prop where
  go : ∀ pins s, Inv X pins σ H s → wpAny (model X.prog X.w) X.A (eval e X.env) (EP X pins σ Q) X.xe s
structure WT (X : Cx) (e : Expr) (σ : L2.St) (H : Hp) (Q : Bool → Hp → Prop) : Prop where
  go : ∀ pins s, Inv X pins σ H s → wpAny (model X.prog X.w) X.A (isTrue e X.env (eval e X.env)) (TP X pins σ Q) X.xe s
structure WA (X : Cx) (es : List Expr) (σ : L2.St) (H : Hp) (Q : List V → Hp → Prop) : Prop where
  go : ∀ pos pins s, Inv X pins σ H s → wpAny (model X.prog X.w) X.A (spliced (backTo pos (starEach es X.env))) (AP X pins σ Q) X.xe s
structure WP (X : Cx) (st : List Stmt) (D : Ends) (σ : L2.St) (H : Hp) : Prop where
  go : ∀ pins s, Inv X pins σ H s → wpAny (model X.prog X.w) X.A (execs st X.env) (SP X pins D) X.xe s
theorem peW {e : Expr} : PE X e (WE X e) := ⟨fun pins s _ _ _ I h => h.go pins s I⟩
theorem ptW {e : Expr} : PT X e (WT X e) := ⟨fun pins s _ _ _ I h => h.go pins s I⟩
theorem paW {es : List Expr} : PA X es (WA X es) := ⟨fun pos pins s _ _ _ I h => h.go pos pins s I⟩
theorem psW {st : List Stmt} : PSs X st (WP X st) := ⟨fun pins s _ _ _ I h => h.go pins s I⟩
theorem WE.of {e : Expr} {t : TE} {Q : VK} (p : PE X e t) (h : t σ H Q) : WE X e σ H Q := ⟨fun pins s I => p.run pins s σ H Q I h⟩
theorem WT.of {e : Expr} {t : TT} {Q : Bool → Hp → Prop} (p : PT X e t) (h : t σ H Q) : WT X e σ H Q := ⟨fun pins s I => p.run pins s σ H Q I h⟩
theorem WA.of {es : List Expr} {t : TA} {Q : List V → Hp → Prop} (p : PA X es t) (h : t σ H Q) : WA X es σ H Q := ⟨fun pos pins s I => p.run pos pins s σ H Q I h⟩
theorem WP.of {st : List Stmt} {t : TS} {D : Ends} (p : PSs X st t) (h : t D σ H) : WP X st D σ H := ⟨fun pins s I => p.run pins s σ H D I h⟩
theorem WP.cons {st : Stmt} {rest : List Stmt} {t : TS} {D : Ends} (p : PS X st t) (h : t { D with nx := fun σ' H' => WP X rest D σ' H' } σ H) : WP X (st :: rest) D σ H :=
  WP.of (pss_cons p psW) h
end
noncomputable def ROk (K : PySem.W.Frag) (N : Addr → Prop) (F' H' : Hp) (v : V) : Ret → Prop
  | .val i x => i.rp K F' v x
  | .new i xs => ∃ a vs, v = .ref a ∧ N a ∧ F' a = none ∧ H' a = some (.lst vs) ∧ Paired (fun u x => i.rp K F' u x) vs xs
  | .own P => ∃ o, P o ∧ (∀ b ∈ o.fp, N b ∧ F' b = none) ∧ o.ok K F' H' v
  | .chg i x os => i.rp K F' v x ∧ (∀ o ∈ os, o.ok K F' H' o.root ∧ ∀ b ∈ o.fp, N b ∧ F' b = none) ∧ os.Pairwise fun o1 o2 => ∀ b ∈ o1.fp, b ∉ o2.fp
noncomputable abbrev Nw (H : Hp) : Addr → Prop := fun b => H b = none
theorem ROk.imp {K : PySem.W.Frag} {N N' : Addr → Prop} {F' H' : Hp} {v : V} {r : Ret} (h : ROk K N F' H' v r) (n : ∀ b, N b → N' b) : ROk K N' F' H' v r := by
  cases r with
  | val i x => exact h
  | new i xs => obtain ⟨a, vs, e, h1, h2⟩ := h; exact ⟨a, vs, e, n a h1, h2⟩
  | own P => obtain ⟨o, p, f, ok⟩ := h; exact ⟨o, p, fun b hb => ⟨n b (f b hb).1, (f b hb).2⟩, ok⟩
  | chg i x os => obtain ⟨r, f, d⟩ := h; exact ⟨r, fun o ho => ⟨(f o ho).1, fun b hb => ⟨n b ((f o ho).2 b hb).1, ((f o ho).2 b hb).2⟩⟩, d⟩
noncomputable def EX (X : Cx) (Γ : List Slot) (e : Expr) (P : Ret → Prop) : Prop :=
  ∀ B F H σ Q, Lc X.K B F H σ Γ → (∀ r v F' H', P r → Ext F H F' H' → ROk X.K (Nw H) F' H' v r → Q v H') → WE X e σ H Q
noncomputable def EV (X : Cx) (Γ : List Slot) (e : Expr) {α : Type} [i : Rep α] (x : α) : Prop :=
  ∀ B F H σ Q, Lc X.K B F H σ Γ → (∀ v F' H', Ext F H F' H' → i.rp X.K F' v x → Q v H') → WE X e σ H Q
noncomputable def EN (X : Cx) (Γ : List Slot) (e : Expr) {α : Type} [i : Rep α] (xs : List α) : Prop :=
  ∀ B F H σ Q, Lc X.K B F H σ Γ → (∀ a vs F' H', Ext F H F' H' → H a = none → F' a = none → H' a = some (.lst vs) → Paired (fun u x => i.rp X.K F' u x) vs xs → Q (.ref a) H') → WE X e σ H Q
noncomputable def ET (X : Cx) (Γ : List Slot) (e : Expr) (b : Bool) : Prop :=
  ∀ B F H σ Q, Lc X.K B F H σ Γ → (∀ F' H', Ext F H F' H' → Q b H') → WT X e σ H Q
noncomputable def VsOk (K : PySem.W.Frag) (F : Hp) : List V → List Slot → Prop
  | [], [] => True
  | v :: vs, .val i x :: A => i.rp K F v x ∧ VsOk K F vs A
  | _, _ => False
noncomputable def EA (X : Cx) (Γ : List Slot) (es : List Expr) (A : List Slot) : Prop :=
  ∀ B F H σ Q, Lc X.K B F H σ Γ → (∀ vs F' H', Ext F H F' H' → VsOk X.K F' vs A → Q vs H') → WA X es σ H Q
theorem VsOk.mono {K : PySem.W.Frag} {F F' : Hp} (s : Same F F') : ∀ {vs : List V} {A : List Slot}, VsOk K F vs A → VsOk K F' vs A
  | [], [], _ => trivial
  | v :: vs, .val i x :: A, h => ⟨i.mono s h.1, VsOk.mono s h.2⟩
  | [], _ :: _, h => h.elim
  | _ :: _, [], h => h.elim
  | _ :: _, .no :: _, h => h.elim
  | _ :: _, .own _ :: _, h => h.elim
theorem VsOk.len {K : PySem.W.Frag} {F : Hp} : ∀ {vs : List V} {A : List Slot}, VsOk K F vs A → vs.length = A.length
  | [], [], _ => rfl
  | v :: vs, .val i x :: A, h => by rw [List.length_cons, List.length_cons, VsOk.len h.2]
  | [], _ :: _, h => h.elim
  | _ :: _, [], h => h.elim
  | _ :: _, .no :: _, h => h.elim
  | _ :: _, .own _ :: _, h => h.elim
structure Exn where
  cls : Str
  fld : Str
  why : Slot
noncomputable abbrev Spec := List Slot → (Ret → Prop) → (Exn → Prop) → Prop
noncomputable def XOk (K : PySem.W.Frag) (N : Addr → Prop) (F' H' : Hp) (u : Value) (d : Option Addr) (x : Exn) : Prop :=
  ∃ C, u = .ref C ∧ PySem.W.nsIn K mainGlobals x.cls = some (some (.ref C)) ∧
    match x.why with
    | .no => d = none
    | .val i y => ∃ dx w, d = some dx ∧ N dx ∧ F' dx = none ∧ H' dx = some (.xd [(x.fld, w)]) ∧ i.rp K F' w y
    | .own _ => False
theorem XOk.imp {K : PySem.W.Frag} {N N' : Addr → Prop} {F' H' : Hp} {u : Value} {d : Option Addr} {x : Exn} (h : XOk K N F' H' u d x) (n : ∀ a, N a → N' a) : XOk K N' F' H' u d x := by
  obtain ⟨C, e1, e2, h⟩ := h
  refine ⟨C, e1, e2, ?_⟩
  obtain ⟨cls, fld, why⟩ := x
  cases why with
  | no => exact h
  | val i y =>
    obtain ⟨dx, w, e3, e4, h⟩ := h
    exact ⟨dx, w, e3, n _ e4, h⟩
  | own o => exact h
noncomputable def Free (Γ : List Slot) (b : Addr) : Prop := ∀ (k : Nat) o, Γ[k]? = some (.own o) → b ∉ o.fp
noncomputable def XW (X : Cx) : WX := fun cls d σ H => ∀ u s', XE X (fun c d' σ' H' => c = cls ∧ d' = d ∧ σ' = σ ∧ H' = H) u s' → X.xe u s'
theorem takesW {X : Cx} : Takes X (XW X) := fun u s' ⟨a, B, sI, pins, σ, H, cls, d, e, I, nb, up, sky, na, os, ag, h⟩ => h u s' ⟨a, B, sI, pins, σ, H, cls, d, e, I, nb, up, sky, na, os, ag, rfl, rfl, rfl, rfl⟩
theorem XW.of {X : Cx} {W : WX} (tk : Takes X W) {cls : Value} {d : Option Addr} {σ : L2.St} {H : Hp} (h : W cls d σ H) : XW X cls d σ H := fun u s' ⟨a, B, sI, pins, σ', H', cls', d', e, I, nb, up, sky, na, os, ag, e1, e2, e3, e4⟩ => by
  subst e1 e2 e3 e4
  exact tk u s' ⟨a, B, sI, pins, σ', H', cls', d', e, I, nb, up, sky, na, os, ag, h⟩
noncomputable def VsOkO (K : PySem.W.Frag) (F H : Hp) : List V → List Slot → Prop
  | [], [] => True
  | v :: vs, .val i x :: A => i.rp K F v x ∧ VsOkO K F H vs A
  | v :: vs, .own o :: A => o.ok K F H v ∧ (∀ b ∈ o.fp, F b = none) ∧ VsOkO K F H vs A
  | _, _ => False
noncomputable def MA (A : List Slot) : Addr → Prop := fun b => ∃ o, Slot.own o ∈ A ∧ b ∈ o.fp
theorem VsOkO.len {K : PySem.W.Frag} {F H : Hp} : ∀ {vs : List V} {A : List Slot}, VsOkO K F H vs A → vs.length = A.length
  | [], [], _ => rfl
  | v :: vs, .val i x :: A, h => by rw [List.length_cons, List.length_cons, VsOkO.len h.2]
  | v :: vs, .own o :: A, h => by rw [List.length_cons, List.length_cons, VsOkO.len h.2.2]
  | [], _ :: _, h => h.elim
  | _ :: _, [], h => h.elim
  | _ :: _, .no :: _, h => h.elim
theorem VsOk.toO {K : PySem.W.Frag} {F H : Hp} : ∀ {vs : List V} {A : List Slot}, VsOk K F vs A → VsOkO K F H vs A
  | [], [], _ => trivial
  | v :: vs, .val i x :: A, h => ⟨h.1, VsOk.toO h.2⟩
  | [], _ :: _, h => h.elim
  | _ :: _, [], h => h.elim
  | _ :: _, .no :: _, h => h.elim
  | _ :: _, .own _ :: _, h => h.elim
theorem VsOk.no {K : PySem.W.Frag} {F : Hp} : ∀ {vs : List V} {A : List Slot}, VsOk K F vs A → ∀ o, Slot.own o ∉ A
  | [], [], _, _, h => by cases h
  | v :: vs, .val i x :: A, h, o, m => by
    rcases List.mem_cons.mp m with z | z
    · cases z
    · exact VsOk.no h.2 o z
  | [], _ :: _, h, _, _ => h.elim
  | _ :: _, [], h, _, _ => h.elim
  | _ :: _, .no :: _, h, _, _ => h.elim
  | _ :: _, .own _ :: _, h, _, _ => h.elim
theorem VsOk.apart {K : PySem.W.Frag} {F : Hp} {vs : List V} {A : List Slot} (h : VsOk K F vs A) : Apart A := fun i j o1 o2 _ h1 _ => absurd (List.mem_of_getElem? h1) (h.no o1)
theorem VsOk.ma {K : PySem.W.Frag} {F : Hp} {vs : List V} {A : List Slot} (h : VsOk K F vs A) {b : Addr} (m : MA A b) : False := by
  obtain ⟨o, h1, _⟩ := m
  exact h.no o h1
theorem Ext.thenM {M : Addr → Prop} {F H F1 H1 F2 H2 : Hp} (a : Ext F H F1 H1) (b : ExtM M F1 H1 F2 H2) (n : ∀ x, M x → H x = none) : Ext F H F2 H2 :=
  ⟨a.ff.trans b.ff, b.fh, fun x o _ h => b.hh x o (fun m => by rw [n x m] at h; cases h) (a.hs x o h), fun x _ h1 h2 => b.nwM x (fun m => h2 (n x m)) (a.nw x h1 h2) (by
    cases q : H x with
    | none => exact absurd q h2
    | some o => rw [a.hs x o q]; exact fun z => nomatch z), fun _ z => z.elim⟩
noncomputable def spOf (K : PySem.W.Frag) (S : Spec) : Sp := fun vs H Q E => ∃ F A, Same F H ∧ VsOkO K F H vs A ∧ Apart A ∧
  S A (fun r => ∀ v F' H', ExtM (MA A) F H F' H' → ROk K (Bs.nw ⟨F, H, MA A⟩) F' H' v r → Q v H') (fun x => ∀ u d F' H', ExtM (MA A) F H F' H' → XOk K (Bs.nw ⟨F, H, MA A⟩) F' H' u d x → E u d H')
structure Has (P : Program) (w : World) (K : PySem.W.Frag) (mg : Str → Option Value) (base : Heap) (k : Nat) (n : Str) (ps : List Str) (S : Spec) : Prop where
  ex : ∃ f fd, mg n = some (.ref f) ∧ PySem.W.keepIn K (.ref f) = true ∧ Binds K fd ps [] ∧ FnOk P w K mg base (L2.CX P w) k f fd ps (spOf K S)
structure SE where
  nx : List Slot → Prop
  rt : Ret → Prop
  bk : List Slot → Prop
  ct : List Slot → Prop
  ex : List Slot → Exn → Prop
noncomputable abbrev fin (Q : Ret → Prop) : SE := ⟨fun _ => Q (.val repUnit ()), Q, fun _ => False, fun _ => False, fun _ _ => False⟩
noncomputable abbrev finX (Q : Ret → Prop) (R : Exn → Prop) : SE := ⟨fun _ => Q (.val repUnit ()), Q, fun _ => False, fun _ => False, fun _ => R⟩
structure ED (X : Cx) (B : Bs) (F0 : Hp) (E : SE) (D : Ends) : Prop where
  nx : ∀ F H σ Γ, Same F0 F → E.nx Γ → Lc X.K B F H σ Γ → D.nx σ H
  rt : ∀ r v F H, E.rt r → ExtM B.M B.F B.H F H → ROk X.K B.nw F H v r → D.rt v H
  bk : ∀ F H σ Γ, Same F0 F → E.bk Γ → Lc X.K B F H σ Γ → D.bk σ H
  ct : ∀ F H σ Γ, Same F0 F → E.ct Γ → Lc X.K B F H σ Γ → D.ct σ H
  ex : ∀ F H σ Γ x u d, Same F0 F → E.ex Γ x → Lc X.K B F H σ Γ → XOk X.K (fun b => B.nw b ∧ Free Γ b) F H u d x → XW X u d σ H
theorem ED.weak {X : Cx} {B : Bs} {F0 F1 : Hp} {E : SE} {D : Ends} (h : ED X B F0 E D) (s : Same F0 F1) : ED X B F1 E D :=
  ⟨fun F H σ Γ q => h.nx F H σ Γ (s.trans q), h.rt, fun F H σ Γ q => h.bk F H σ Γ (s.trans q), fun F H σ Γ q => h.ct F H σ Γ (s.trans q), fun F H σ Γ x u d q => h.ex F H σ Γ x u d (s.trans q)⟩
theorem ED.exS {X : Cx} {B : Bs} {F0 F H F' H' : Hp} {E : SE} {D : Ends} {Γ : List Slot} {σ : L2.St} {x : Exn} {u : Value} {d : Option Addr} (ed : ED X B F0 E D) (s : Same F0 F) (hE : E.ex Γ x) (L : Lc X.K B F H σ Γ) (e : Ext F H F' H') (ok : XOk X.K (Nw H) F' H' u d x) : XW X u d σ H' :=
  ed.ex F' H' σ Γ x u d (s.trans e.ff) hE (L.step e) (ok.imp fun b h => ⟨L.nw h, fun k o hk => L.ne_own h hk⟩)
noncomputable def ST (X : Cx) (sts : List Stmt) (Γ : List Slot) (E : SE) : Prop :=
  ∀ B F H σ D, Lc X.K B F H σ Γ → ED X B F E D → WP X sts D σ H
noncomputable def noStar : Expr → Bool
  | .Starred .. => false
  | _ => true
theorem star_of {e : Expr} {es : List Expr} {env : Env} (h : noStar e = true) : starEach (e :: es) env = (false, eval e env) :: starEach es env := by
  cases e <;> first | rfl | cases h
theorem pl_of {pos : Pos} {env : Env} : ∀ {es : List Expr}, es.all noStar = true → (backTo pos (starEach es env)).any (·.1) = false
  | [], _ => rfl
  | e :: es, h => by
    rw [List.all_cons, Bool.and_eq_true] at h
    rw [star_of h.1]
    exact pl_of h.2
noncomputable def visB (sc : Scope) (x : Str) : Bool := match sc.names.lookup x with
  | some .local => true
  | some .cell => true
  | some .free => true
  | _ => false
theorem vis_of {sc : Scope} {x : Str} (h : visB sc x = true) : L2.Vis sc x := by
  unfold visB at h
  split at h
  · exact Or.inl (by assumption)
  · exact Or.inr (Or.inl (by assumption))
  · exact Or.inr (Or.inr (by assumption))
  · cases h
noncomputable def locB (sc : Scope) (x : Str) : Bool := match sc.names.lookup x with
  | some .local => true
  | some .cell => true
  | _ => false
theorem loc_of {sc : Scope} {x : Str} (h : locB sc x = true) : L2.Loc sc x := by
  unfold locB at h
  split at h
  · exact Or.inl (by assumption)
  · exact Or.inr (by assumption)
  · cases h
def aSeq (x : Lean.Syntax) : Lean.Syntax := .node .none `Lean.Parser.Tactic.tacticSeq #[.node .none `Lean.Parser.Tactic.tacticSeq1Indented #[.node .none `null #[x]]]
def aEx (n : Lean.Name) : Lean.Syntax := aSeq (.node .none `Lean.Parser.Tactic.exact #[.atom .none "exact", .node .none `Lean.Parser.Term.app #[.ident .none n.toString.toRawSubstring n [.decl n []], .node .none `null #[.ident .none "rfl".toRawSubstring `rfl [.decl `rfl []]]]])
def aStar : Lean.Syntax := aEx `Tw.star_of
def aPl : Lean.Syntax := aEx `Tw.pl_of
def aVis : Lean.Syntax := aEx `Tw.vis_of
def aLoc : Lean.Syntax := aEx `Tw.loc_of
def aHole : Lean.Syntax := .node .none `Lean.Parser.Term.hole #[.atom .none "_"]
def aIn (n : Nat) : Lean.Syntax := .node .none `Lean.Parser.Tactic.tacticSeq #[.node .none `Lean.Parser.Tactic.tacticSeq1Indented #[.node .none `null #[.node .none `Lean.Parser.Tactic.intro #[.atom .none "intro", .node .none `null (Array.replicate n aHole)], .atom .none ";", .node .none `Lean.Parser.Tactic.tacticRfl #[.atom .none "rfl"]]]]
def aIR1 : Lean.Syntax := aIn 1
def aDot (n : Lean.Name) (s : String) : Lean.Syntax := .node .none `group #[.atom .none "|", aSeq (.node .none `Lean.Parser.Tactic.exact #[.atom .none "exact", .node .none `Lean.Parser.Term.app #[.node .none `Lean.Parser.Term.dotIdent #[.atom .none ".", .ident .none s.toRawSubstring n []], .node .none `null #[.ident .none "rfl".toRawSubstring `rfl [.decl `rfl []]]]])]
def aNle : Lean.Syntax := aEx `Nat.le_of_ble_eq_true
def aAlt (x : Lean.Syntax) : Lean.Syntax := .node .none `group #[.atom .none "|", x]
def aPass : Lean.Syntax := aSeq (.node .none `Lean.Parser.Tactic.first #[.atom .none "first", .node .none `null #[aAlt (aSeq (.node .none `Lean.Parser.Tactic.exact #[.atom .none "exact", .ident .none "PySem.PassesOwn.never".toRawSubstring `PySem.PassesOwn.never [.decl `PySem.PassesOwn.never []]])), aAlt (aEx `L2.passes_of), aAlt (aSeq (.node .none `Lean.Parser.Tactic.assumption #[.atom .none "assumption"]))]])
def aFn : Lean.Syntax := aSeq (.node .none `Lean.Parser.Tactic.first #[.atom .none "first", .node .none `null #[aDot `inl "inl", aDot `inr "inr"]])
def aIR2 : Lean.Syntax := aIn 2
def aDec : Lean.Syntax := aSeq (.node .none `Lean.Parser.Tactic.decide #[.atom .none "decide", .node .none `Lean.Parser.Tactic.optConfig #[.node .none `null #[]]])
end Tw
namespace Tw
open PySem PySem.Spec PyProof.Rows L2 TL
noncomputable abbrev tx (s : String) : Tx := s.toList.map Char.toNat
theorem sl_small {n : Nat} (h : n ≤ 1000) : n ≤ sizeLine := Nat.le_trans h (by decide)
theorem sx_tx (s : String) : Str.ofString s = sx (tx s) := ext_tl (by rw [tl_ofString]; rfl)
section
variable {X : Cx} {Γ : List Slot} {α β γ : Type} {i : Rep α} {j : Rep β} {l : Rep γ} {pos p : Pos} {e a b c : Expr} {es : List Expr}
theorem ev_of_ex {x : α} (h : EX X Γ e fun r => r = .val i x) : EV X Γ e x := fun B F H σ Q L q =>
  h B F H σ Q L fun r v F' H' er ex ok => by subst er; exact q v F' H' ex ok
theorem en_of_ex {xs : List α} (h : EX X Γ e fun r => r = .new i xs) : EN X Γ e xs := fun B F H σ Q L q =>
  h B F H σ Q L fun r v F' H' er ex ok => by
    subst er
    obtain ⟨a, vs, rfl, h1, h2, h3, h4⟩ := ok
    exact q a vs F' H' ex h1 h2 h3 h4
theorem ev_of_en {xs : List α} (h : EN X Γ e xs) : EV X Γ e xs := fun B F H σ Q L q =>
  h B F H σ Q L fun a vs F' H' ex ha fa h' p => by
    have sm : Same F' (upd F' a (.lst vs)) := fun b u e => by rw [upd_ne (ne_of_none e fa)]; exact e
    refine q (.ref a) (upd F' a (.lst vs)) H' ⟨ex.ff.trans sm, fun b u e => ?_, ex.hh, fun b _ h1 h2 => ?_, fun _ z => z.elim⟩ ⟨a, vs, rfl, upd_same, Paired.mapP p fun _ _ q => i.mono sm q⟩
    · by_cases hb : b = a
      · subst hb; rw [upd_same] at e; rw [← e]; exact h'
      · rw [upd_ne hb] at e; exact ex.fh _ _ e
    · rw [upd_ne (fun z => by subst z; exact h2 ha)]; exact ex.nw b h1 h2
theorem ex_of_ev {x : α} {P : Ret → Prop} (h : EV X Γ e x) (hp : P (.val i x)) : EX X Γ e P := fun B F H σ Q L q =>
  h B F H σ Q L fun v F' H' ex r => q (.val i x) v F' H' hp ex r
theorem ex_of_en {xs : List α} {P : Ret → Prop} (h : EN X Γ e xs) (hp : P (.new i xs)) : EX X Γ e P := fun B F H σ Q L q =>
  h B F H σ Q L fun a vs F' H' ex ha fa h' p => q (.new i xs) (.ref a) F' H' hp ex ⟨a, vs, rfl, ha, fa, h', p⟩
theorem ev_eq {x y : α} (h : EV X Γ e x) (q : x = y) : EV X Γ e y := q ▸ h
theorem en_eq {x y : List α} (h : EN X Γ e x) (q : x = y) : EN X Γ e y := q ▸ h
theorem et_eq {x y : Bool} (h : ET X Γ e x) (q : x = y) : ET X Γ e y := q ▸ h
theorem et_val {k : Bool} (h : EV X Γ e k) (he : autoParam (∀ whole, isTrue e X.env whole = (do let v ← whole; standAt e.pos; holding [v] (truthy v))) Tw.aIR1) : ET X Γ e k := fun B F H σ Q L q =>
  WT.of (pt_val peW he) (h B F H σ _ L fun v F' H' ex r => ⟨k, r, q F' H' ex⟩)
theorem ev_var (k : Nat) {n : Str} {x : α} (hN : autoParam (X.N[k]? = some n) aRfl) (hv : autoParam (Vis X.env.scope n) aVis) (hd : autoParam ((n == ("__debug__" : Str)) = false) aDec)
    (hcd : autoParam ((n == ("__classdict__" : Str)) = false) aDec) (hg : autoParam (Γ[k]? = some (.val i x)) aRfl) : EV X Γ (.Name n pos) x := fun B F H σ Q L q => by
  obtain ⟨v, e1, r⟩ := slot_val L hg
  exact WE.of (pe_var hN hv hd hcd) ⟨v, e1, q v F H (Ext.refl L.same) r⟩
theorem ev_int {z : Int} {k} : EV X Γ (.Constant (.int z) k pos) z := fun B F H σ Q L q => WE.of pe_int (q _ F H (Ext.refl L.same) rfl)
theorem ev_bl {z : Bool} {k} : EV X Γ (.Constant (.bool z) k pos) z := fun B F H σ Q L q => WE.of pe_bl (q _ F H (Ext.refl L.same) rfl)
theorem ev_non {k} : EV X Γ (.Constant .none k pos) () := fun B F H σ Q L q => WE.of pe_non (q _ F H (Ext.refl L.same) rfl)
theorem ev_nonO {k} : EV X Γ (.Constant .none k pos) (none : Option α) := fun B F H σ Q L q => WE.of pe_non (q _ F H (Ext.refl L.same) rfl)
theorem ev_some {x : α} (h : EV X Γ e x) : EV X Γ e (some x) := fun B F H σ Q L q => h B F H σ Q L fun v F' H' ex r => q v F' H' ex r
theorem ev_str (s : String) {k} : EV X Γ (.Constant (.str (Str.ofString s)) k pos) (tx s) := fun B F H σ Q L q => WE.of pe_str (q _ F H (Ext.refl L.same) (congrArg V.str (sx_tx s)))
theorem ev_gint {n : Str} {z : Int} {t : Tok} (hm : X.mg n = some (.int z t)) (hg : autoParam (Gl X n) aRfl) (hd : autoParam ((n == ("__debug__" : Str)) = false) aDec) : EV X Γ (.Name n pos) z := fun B F H σ Q L q =>
  WE.of (pe_glob (v := .int z) hg hm ⟨t, rfl⟩ hd) (q _ F H (Ext.refl L.same) rfl)
theorem ev_gstr {n : Str} (s : String) {t : Tok} (hm : X.mg n = some (.str (Str.ofString s) t)) (hg : autoParam (Gl X n) aRfl) (hd : autoParam ((n == ("__debug__" : Str)) = false) aDec) : EV X Γ (.Name n pos) (tx s) := fun B F H σ Q L q =>
  WE.of (pe_glob (v := .str (Str.ofString s)) hg hm ⟨t, rfl⟩ hd) (q _ F H (Ext.refl L.same) (congrArg V.str (sx_tx s)))
noncomputable def rW (X : Cx) (f : Value → Value → Sem Value) : R2 := fun x y H Q => ∀ pins s σ v u, Inv X pins σ H s → RelV x v → RelV y u → wpAny (model X.prog X.w) X.A (f v u) (EP X pins σ Q) X.xe s
theorem opW {f : Value → Value → Sem Value} : OpR X f (rW X f) := fun pins s σ H x y v u Q I r1 r2 h => h pins s σ v u I r1 r2
noncomputable def OB (X : Cx) (f : Value → Value → Sem Value) {α β γ : Type} [i : Rep α] [j : Rep β] [l : Rep γ] (x : α) (y : β) (z : γ) : Prop :=
  ∀ F H v u Q, Same F H → i.rp X.K F v x → j.rp X.K F u y → (∀ w F' H', Ext F H F' H' → l.rp X.K F' w z → Q w H') → rW X f v u H Q
theorem ob_flat {f : Value → Value → Sem Value} {x : α} {y : β} {z : γ} {r : R2} (o : OpR X f r)
    (h : ∀ F H v u Q, Same F H → i.rp X.K F v x → j.rp X.K F u y → (∀ w, l.rp X.K F w z → Q w H) → r v u H Q) : OB X f x y z :=
  fun F H v u Q s r1 r2 q pins s' σ v' u' I rv ru => o pins s' σ H v u v' u' Q I rv ru (h F H v u Q s r1 r2 fun w hw => q w F H (Ext.refl s) hw)
theorem ev_bin {op : Operator} {x : α} {y : β} {z : γ} (o : OB X (binaryOp op) x y z) (ha : EV X Γ a x) (hb : EV X Γ b y) : EV X Γ (.BinOp a op b pos) z := fun B F H σ Q L q =>
  WE.of (pe_op opW peW peW) (ha B F H σ _ L fun v F1 H1 e1 r1 => hb B F1 H1 σ _ (L.step e1) fun u F2 H2 e2 r2 =>
    o F2 H2 v u Q (L.step (e1.trans e2)).same (i.mono e2.ff r1) r2 fun w F3 H3 e3 r3 => q w F3 H3 ((e1.trans e2).trans e3) r3)
theorem ev_cmp {op : CmpOp} {x : α} {y : β} {z : Bool} (o : OB X (compareOp op) x y z) (ha : EV X Γ a x) (hb : EV X Γ b y) (hm : behindInMarks op b = false := by first | exact nomark _ | rfl) : EV X Γ (.Compare a [op] [b] pos) z := fun B F H σ Q L q =>
  WE.of (pe_cmpR opW peW peW hm) (ha B F H σ _ L fun v F1 H1 e1 r1 => hb B F1 H1 σ _ (L.step e1) fun u F2 H2 e2 r2 =>
    o F2 H2 v u Q (L.step (e1.trans e2)).same (i.mono e2.ff r1) r2 fun w F3 H3 e3 r3 => q w F3 H3 ((e1.trans e2).trans e3) r3)
theorem et_cmp {op : CmpOp} {x : α} {y : β} {z : Bool} (o : OB X (compareOp op) x y z) (ha : EV X Γ a x) (hb : EV X Γ b y) (hm : behindInMarks op b = false := by first | exact nomark _ | rfl) : ET X Γ (.Compare a [op] [b] pos) z := fun B F H σ Q L q =>
  WT.of (pt_cmpR opW peW peW hm) (ha B F H σ _ L fun v F1 H1 e1 r1 => hb B F1 H1 σ _ (L.step e1) fun u F2 H2 e2 r2 =>
    o F2 H2 v u _ (L.step (e1.trans e2)).same (i.mono e2.ff r1) r2 fun w F3 H3 e3 r3 => ⟨z, r3, q F3 H3 ((e1.trans e2).trans e3)⟩)
theorem ev_chain {op op' : CmpOp} {x : α} {y : β} {w : γ} {k k' : Bool} (o : OB X (compareOp op) x y k) (o' : k = true → OB X (compareOp op') y w k') (ha : EV X Γ a x) (hb : EV X Γ b y) (hc : k = true → EV X Γ c w)
    (hm : lastMarks [op, op'] [b, c] = false := by with_unfolding_all rfl) : EV X Γ (.Compare a [op, op'] [b, c] pos) (k && k') := fun B F H σ Q L q =>
  WE.of (pe_chain opW opW peW peW peW hm) (ha B F H σ _ L fun v F1 H1 e1 r1 => hb B F1 H1 σ _ (L.step e1) fun u F2 H2 e2 r2 =>
    o F2 H2 v u _ (L.step (e1.trans e2)).same (i.mono e2.ff r1) r2 fun z F3 H3 e3 r3 => ⟨k, r3, by
      have e123 := (e1.trans e2).trans e3
      cases k with
      | false => exact q _ F3 H3 e123 rfl
      | true => exact hc rfl B F3 H3 σ _ (L.step e123) fun t F4 H4 e4 r4 => o' rfl F4 H4 u t Q (L.step (e123.trans e4)).same (j.mono (e3.trans e4).ff r2) r4 fun w F5 H5 e5 r5 => q w F5 H5 ((e123.trans e4).trans e5) (by rw [Bool.true_and]; exact r5)⟩)
theorem ob_I {f : Value → Value → Sem Value} {C : Int → Int → Prop} {g : Int → Int → Int} {x y : Int} (o : OpR X f (rI C fun i j => .int (g i j))) (h : C x y) : OB X f x y (g x y) :=
  ob_flat o fun F H v u Q s r1 r2 q => ⟨x, y, r1, r2, h, q _ rfl⟩
theorem ob_I0 {f : Value → Value → Sem Value} {g : Int → Int → Int} {x y : Int} (o : OpR X f (rI0 fun i j => .int (g i j))) : OB X f x y (g x y) :=
  ob_flat o fun F H v u Q s r1 r2 q => ⟨x, y, r1, r2, q _ rfl⟩
theorem ob_B0 {f : Value → Value → Sem Value} {g : Int → Int → Bool} {x y : Int} (o : OpR X f (rI0 fun i j => .bl (g i j))) : OB X f x y (g x y) :=
  ob_flat o fun F H v u Q s r1 r2 q => ⟨x, y, r1, r2, q _ rfl⟩
theorem o_add {x y : Int} : OB X (binaryOp .Add) x y (x + y) := ob_I0 op_add
theorem o_sub {x y : Int} : OB X (binaryOp .Sub) x y (x - y) := ob_I0 op_sub
theorem o_mul {x y : Int} (h : CMul x y) : OB X (binaryOp .Mult) x y (x * y) := ob_I op_mul h
theorem o_mod {x y : Int} (h : 0 < y) : OB X (binaryOp .Mod) x y (x % y) := ob_I op_mod h
theorem o_div {x y : Int} (h : CDivW x y) : OB X (binaryOp .FloorDiv) x y (x / y) := ob_I op_fdivW h
theorem o_lt {x y : Int} : OB X (compareOp .Lt) x y (decide (x < y)) := ob_B0 op_lt
theorem o_le {x y : Int} : OB X (compareOp .LtE) x y (decide (x ≤ y)) := ob_B0 op_le
theorem o_gt {x y : Int} : OB X (compareOp .Gt) x y (decide (y < x)) := ob_B0 op_gt
theorem o_ge {x y : Int} : OB X (compareOp .GtE) x y (decide (y ≤ x)) := ob_B0 op_ge
theorem o_eq {x y : Int} : OB X (compareOp .Eq) x y (decide (x = y)) := ob_flat op_eq fun F H v u Q s r1 r2 q => by
  obtain rfl : v = .int x := r1
  obtain rfl : u = .int y := r2
  exact ⟨rfl, q _ (show V.bl _ = V.bl _ by rw [dec_int, Bool.beq_eq_decide_eq])⟩
theorem o_ne {x y : Int} : OB X (compareOp .NotEq) x y (!decide (x = y)) := ob_flat op_ne fun F H v u Q s r1 r2 q => by
  obtain rfl : v = .int x := r1
  obtain rfl : u = .int y := r2
  exact ⟨rfl, q _ (show V.bl _ = V.bl _ by rw [dec_int, Bool.beq_eq_decide_eq])⟩
theorem dec_sx {x y : Tx} : decide (V.str (sx x) = V.str (sx y)) = decide (x = y) := by
  by_cases h : x = y
  · subst h; rw [decide_eq_true rfl, decide_eq_true rfl]
  · rw [decide_eq_false h, decide_eq_false fun z => h (sx_inj (V.str.inj z))]
theorem o_eqS {x y : Tx} : OB X (compareOp .Eq) x y (decide (x = y)) := ob_flat op_eq fun F H v u Q s r1 r2 q => by
  obtain rfl : v = .str (sx x) := r1
  obtain rfl : u = .str (sx y) := r2
  exact ⟨rfl, q _ (show V.bl _ = V.bl _ by rw [dec_sx])⟩
theorem o_neS {x y : Tx} : OB X (compareOp .NotEq) x y (!decide (x = y)) := ob_flat op_ne fun F H v u Q s r1 r2 q => by
  obtain rfl : v = .str (sx x) := r1
  obtain rfl : u = .str (sx y) := r2
  exact ⟨rfl, q _ (show V.bl _ = V.bl _ by rw [dec_sx])⟩
theorem o_addS {x y : Tx} (h : x.length + y.length ≤ sizeLine) : OB X (binaryOp .Add) x y (x ++ y) := ob_flat op_add_str fun F H v u Q s r1 r2 q => by
  obtain rfl : v = .str (sx x) := r1
  obtain rfl : u = .str (sx y) := r2
  exact ⟨_, _, rfl, rfl, by rw [sx_len, sx_len]; exact h, q _ (by rw [sx_app]; rfl)⟩
theorem ev_neg {x : Int} (h : EV X Γ a x) : EV X Γ (.UnaryOp .USub a pos) (-x) := fun B F H σ Q L q =>
  WE.of (pe_un un_neg peW) (h B F H σ _ L fun v F1 H1 e1 r1 => ⟨x, r1, q _ F1 H1 e1 rfl⟩)
theorem et_not {k : Bool} (h : ET X Γ a k) : ET X Γ (.UnaryOp .Not a pos) (!k) := fun B F H σ Q L q =>
  WT.of (pt_not ptW) (h B F H σ _ L fun F1 H1 e1 => q F1 H1 e1)
theorem ev_not {k : Bool} (h : EV X Γ a k) : EV X Γ (.UnaryOp .Not a pos) (!k) := fun B F H σ Q L q =>
  WE.of (pe_not peW) (h B F H σ _ L fun v F1 H1 e1 r1 => ⟨k, r1, q _ F1 H1 e1 rfl⟩)
structure WW (X : Cx) (e : Expr) (σ : L2.St) (H : Hp) (Q : Bool → Hp → Prop) : Prop where
  go : ∀ whole pins s, Inv X pins σ H s → wpAny (model X.prog X.w) X.A (isTrue e X.env whole) (TP X pins σ Q) X.xe s
theorem pwW : PW X e (WW X e) := ⟨fun whole pins s _ _ _ I h => h.go whole pins s I⟩
noncomputable def EW (X : Cx) (Γ : List Slot) (e : Expr) (k : Bool) : Prop := ∀ B F H σ Q, Lc X.K B F H σ Γ → (∀ F' H', Ext F H F' H' → Q k H') → WW X e σ H Q
theorem WW.of {t : TT} {σ : L2.St} {H : Hp} {Q : Bool → Hp → Prop} (p : PW X e t) (h : t σ H Q) : WW X e σ H Q := ⟨fun whole pins s I => p.run whole pins s σ H Q I h⟩
theorem et_w {k : Bool} (h : EW X Γ e k) : ET X Γ e k := fun B F H σ Q L q => WT.of (PW.pt pwW) (h B F H σ Q L q)
theorem ew_and1 {k : Bool} (h : ET X Γ a k) : EW X Γ (.BoolOp .And [a] pos) k := fun B F H σ Q L q => WW.of (pw_and1 ptW) (h B F H σ Q L q)
theorem ew_or1 {k : Bool} (h : ET X Γ a k) : EW X Γ (.BoolOp .Or [a] pos) k := fun B F H σ Q L q => WW.of (pw_or1 ptW) (h B F H σ Q L q)
theorem ew_and {k m : Bool} (ha : ET X Γ a k) (hb : k = true → EW X Γ (.BoolOp .And (b :: es) pos) m) : EW X Γ (.BoolOp .And (a :: b :: es) pos) (k && m) := fun B F H σ Q L q =>
  WW.of (pw_and ptW pwW) (ha B F H σ _ L fun F1 H1 e1 => by
    cases k with
    | true => exact hb rfl B F1 H1 σ Q (L.step e1) fun F2 H2 e2 => by rw [Bool.true_and] at q; exact q F2 H2 (e1.trans e2)
    | false => exact q F1 H1 e1)
theorem ew_or {k m : Bool} (ha : ET X Γ a k) (hb : k = false → EW X Γ (.BoolOp .Or (b :: es) pos) m) : EW X Γ (.BoolOp .Or (a :: b :: es) pos) (k || m) := fun B F H σ Q L q =>
  WW.of (pw_or ptW pwW) (ha B F H σ _ L fun F1 H1 e1 => by
    cases k with
    | false => exact hb rfl B F1 H1 σ Q (L.step e1) fun F2 H2 e2 => by rw [Bool.false_or] at q; exact q F2 H2 (e1.trans e2)
    | true => exact q F1 H1 e1)
theorem et_and {k m : Bool} (ha : ET X Γ a k) (hb : k = true → ET X Γ b m) : ET X Γ (.BoolOp .And [a, b] pos) (k && m) := et_w (ew_and ha fun h => ew_and1 (hb h))
theorem et_or {k m : Bool} (ha : ET X Γ a k) (hb : k = false → ET X Γ b m) : ET X Γ (.BoolOp .Or [a, b] pos) (k || m) := et_w (ew_or ha fun h => ew_or1 (hb h))
theorem et_and3 {k m n : Bool} (ha : ET X Γ a k) (hb : k = true → ET X Γ b m) (hc : k = true → m = true → ET X Γ c n) : ET X Γ (.BoolOp .And [a, b, c] pos) (k && (m && n)) := et_w (ew_and ha fun h => ew_and (hb h) fun h2 => ew_and1 (hc h h2))
theorem et_or3 {k m n : Bool} (ha : ET X Γ a k) (hb : k = false → ET X Γ b m) (hc : k = false → m = false → ET X Γ c n) : ET X Γ (.BoolOp .Or [a, b, c] pos) (k || (m || n)) := et_w (ew_or ha fun h => ew_or (hb h) fun h2 => ew_or1 (hc h h2))
theorem ev_one {op} {x : α} (h : EV X Γ a x) : EV X Γ (.BoolOp op [a] pos) x := fun B F H σ Q L q => WE.of (pe_one peW) (h B F H σ Q L q)
theorem ev_and {k m : Bool} (ha : EV X Γ a k) (hb : k = true → EV X Γ (.BoolOp .And (b :: es) pos) m) : EV X Γ (.BoolOp .And (a :: b :: es) pos) (k && m) := fun B F H σ Q L q =>
  WE.of (pe_and peW peW) (ha B F H σ _ L fun v F1 H1 e1 r1 => ⟨k, r1, by
    cases k with
    | true => exact hb rfl B F1 H1 σ Q (L.step e1) fun v F2 H2 e2 r2 => by rw [Bool.true_and] at q; exact q v F2 H2 (e1.trans e2) r2
    | false => exact q _ F1 H1 e1 rfl⟩)
theorem ev_and2 {k m : Bool} (ha : EV X Γ a k) (hb : k = true → EV X Γ b m) : EV X Γ (.BoolOp .And [a, b] pos) (k && m) := ev_and ha fun h => ev_one (hb h)
theorem ea_nil : EA X Γ [] [] := fun B F H σ Q L q => WA.of pa_nil (q [] F H (Ext.refl L.same) trivial)
theorem ea_cons {x : α} {A : List Slot} (h : EV X Γ e x) (hr : EA X Γ es A) (hs : autoParam (starEach (e :: es) X.env = (false, eval e X.env) :: starEach es X.env) aStar) : EA X Γ (e :: es) (.val i x :: A) := fun B F H σ Q L q =>
  WA.of (pa_cons peW paW hs) (h B F H σ _ L fun v F1 H1 e1 r1 => hr B F1 H1 σ _ (L.step e1) fun vs F2 H2 e2 r2 => q (v :: vs) F2 H2 (e1.trans e2) ⟨i.mono e2.ff r1, r2⟩)
noncomputable def EAs (X : Cx) (Γ : List Slot) (es : List Expr) {α : Type} [i : Rep α] (xs : List α) : Prop :=
  ∀ B F H σ Q, Lc X.K B F H σ Γ → (∀ vs F' H', Ext F H F' H' → Paired (fun u x => i.rp X.K F' u x) vs xs → Q vs H') → WA X es σ H Q
theorem es_nil : EAs X Γ [] ([] : List α) := fun B F H σ Q L q => WA.of pa_nil (q [] F H (Ext.refl L.same) .nil)
theorem es_cons {x : α} {xs : List α} (h : EV X Γ e x) (hr : EAs X Γ es xs) (hs : autoParam (starEach (e :: es) X.env = (false, eval e X.env) :: starEach es X.env) aStar) : EAs X Γ (e :: es) (x :: xs) := fun B F H σ Q L q =>
  WA.of (pa_cons peW paW hs) (h B F H σ _ L fun v F1 H1 e1 r1 => hr B F1 H1 σ _ (L.step e1) fun vs F2 H2 e2 r2 => q (v :: vs) F2 H2 (e1.trans e2) (.cons (i.mono e2.ff r1) r2))
theorem en_lst {xs : List α} (h : EAs X Γ es xs) (hz : xs.length ≤ sizeLine := by exact sl_small (by simp)) : EN X Γ (.List es pos) xs := fun B F H σ Q L q =>
  WE.of (pe_lst paW) (h B F H σ _ L fun vs F1 H1 e1 r1 => ⟨by rw [Paired.length r1]; exact hz, fun p hp => by
    have s1 := (L.step e1).same
    have ea := Ext.apart (o := .lst vs) s1 hp
    exact q p vs F1 _ (e1.trans ea) (e1.hs.free hp) (s1.free hp) upd_same r1⟩)
theorem ev_tupH {x1} {xs : List α} (h : EAs X Γ es xs) (hz : xs.length ≤ sizeLine := by exact sl_small (by simp)) : EV X Γ (.Tuple es x1 pos) (Tup.mk xs) := fun B F H σ Q L q =>
  WE.of (pe_tup paW) (h B F H σ _ L fun vs F1 H1 e1 r1 => ⟨by rw [Paired.length r1]; exact hz, fun p hp => by
    have s1 := (L.step e1).same
    have ea := Ext.new (o := .tup vs) s1 hp
    exact q (.ref p) _ _ (e1.trans ea) ⟨p, vs, rfl, upd_same, Paired.mapP r1 fun _ _ z => i.mono ea.ff z⟩⟩)
theorem ev_pair {x1} {x : α} {y : β} (ha : EV X Γ a x) (hb : EV X Γ b y) (hs : autoParam (starEach [a, b] X.env = (false, eval a X.env) :: starEach [b] X.env) aStar) (hs2 : autoParam (starEach [b] X.env = (false, eval b X.env) :: starEach [] X.env) aStar) : EV X Γ (.Tuple [a, b] x1 pos) (x, y) := fun B F H σ Q L q =>
  WE.of (pe_tup paW) (ea_cons ha (ea_cons hb ea_nil hs2) hs B F H σ _ L fun vs F1 H1 e1 r1 => by
    match vs, r1 with
    | [v, u], ⟨h1, h2, _⟩ =>
      exact ⟨by show 2 ≤ sizeLine; decide, fun p hp => by
        have s1 := (L.step e1).same
        have ea := Ext.new (o := .tup [v, u]) s1 hp
        exact q (.ref p) _ _ (e1.trans ea) ⟨p, v, u, rfl, upd_same, i.mono ea.ff h1, j.mono ea.ff h2⟩⟩)
theorem sq_of {K : PySem.W.Frag} {F H : Hp} (s : Same F H) {a : Addr} {vs : List V} (h : F a = some (.lst vs)) : SqL K H a vs := .inl (.inl (s _ _ h))
theorem st_of {K : PySem.W.Frag} {F H : Hp} (s : Same F H) {a : Addr} {vs : List V} (h : F a = some (.tup vs)) : SqT K H a vs := .inl (.inl (s _ _ h))
theorem ev_callB1 {n : Str} {id : String} {x : α} {z : β} {r : List V → Hp → VK → Prop} (hc : CallR X (.builtin id) r) (hm : X.mg n = none) (hv : bootBuiltins n = some (.builtin id)) (h : EV X Γ e x)
    (hr : ∀ F H v Q, Same F H → i.rp X.K F v x → (∀ w F' H', Ext F H F' H' → j.rp X.K F' w z → Q w H') → r [v] H Q) (hg : autoParam (Gl X n) aRfl) (hn : autoParam (n ≠ "__name__") aDec) (hd : autoParam ((n == ("__debug__" : Str)) = false) aDec)
    (hs : autoParam (starEach [e] X.env = (false, eval e X.env) :: starEach [] X.env) aStar) (hpl : autoParam ((backTo pos (starEach [] X.env)).any (·.1) = false) aPl) : EV X Γ (.Call (.Name n p) [e] [] pos) z := fun B F H σ Q L q =>
  WE.of (pe_callB hc hg hm hv (pa_cons peW pa_nil hs) hn hd hs hpl) (h B F H σ _ L fun v F1 H1 e1 r1 => hr F1 H1 v Q (L.step e1).same r1 fun w F2 H2 e2 r2 => q w F2 H2 (e1.trans e2) r2)
theorem ev_callT1 {n : Str} {id : String} {x : α} {z : β} {r : List V → Hp → VK → Prop} (hc : CallR X (.type id) r) (hm : X.mg n = none) (hv : bootBuiltins n = some (.type id)) (h : EV X Γ e x)
    (hr : ∀ F H v Q, Same F H → i.rp X.K F v x → (∀ w F' H', Ext F H F' H' → j.rp X.K F' w z → Q w H') → r [v] H Q) (hg : autoParam (Gl X n) aRfl) (hn : autoParam (n ≠ "__name__") aDec) (hd : autoParam ((n == ("__debug__" : Str)) = false) aDec)
    (hs : autoParam (starEach [e] X.env = (false, eval e X.env) :: starEach [] X.env) aStar) (hpl : autoParam ((backTo pos (starEach [] X.env)).any (·.1) = false) aPl) : EV X Γ (.Call (.Name n p) [e] [] pos) z := fun B F H σ Q L q =>
  WE.of (pe_callTy hc hg hm hv (pa_cons peW pa_nil hs) hn hd hs hpl) (h B F H σ _ L fun v F1 H1 e1 r1 => hr F1 H1 v Q (L.step e1).same r1 fun w F2 H2 e2 r2 => q w F2 H2 (e1.trans e2) r2)
theorem ev_len {xs : List α} (hm : X.mg "len" = none) (h : EV X Γ e xs) (hg : autoParam (Gl X "len") aRfl) (hs : autoParam (starEach [e] X.env = (false, eval e X.env) :: starEach [] X.env) aStar) (hpl : autoParam ((backTo pos (starEach [] X.env)).any (·.1) = false) aPl) :
    EV X Γ (.Call (.Name "len" p) [e] [] pos) (xs.length : Int) :=
  ev_callB1 call_len_seq hm PySem.boot_len h (fun F H v Q s r q => by
    obtain ⟨a, vs, rfl, ha, pr⟩ := r
    exact ⟨a, vs, rfl, .inl (sq_of s ha), q _ F H (Ext.refl s) (by rw [Paired.length pr]; rfl)⟩) hg (by decide) (by decide) hs hpl
theorem ev_lenT {xs : Tup α} (hm : X.mg "len" = none) (h : EV X Γ e xs) (hg : autoParam (Gl X "len") aRfl) (hs : autoParam (starEach [e] X.env = (false, eval e X.env) :: starEach [] X.env) aStar) (hpl : autoParam ((backTo pos (starEach [] X.env)).any (·.1) = false) aPl) :
    EV X Γ (.Call (.Name "len" p) [e] [] pos) (xs.l.length : Int) :=
  ev_callB1 call_len_seq hm PySem.boot_len h (fun F H v Q s r q => by
    obtain ⟨a, vs, rfl, ha, pr⟩ := r
    exact ⟨a, vs, rfl, .inr (st_of s ha), q _ F H (Ext.refl s) (by rw [Paired.length pr]; rfl)⟩) hg (by decide) (by decide) hs hpl
theorem ev_lenScr {xs : Scr} (hm : X.mg "len" = none) (h : EV X Γ e xs) (hg : autoParam (Gl X "len") aRfl) (hs : autoParam (starEach [e] X.env = (false, eval e X.env) :: starEach [] X.env) aStar) (hpl : autoParam ((backTo pos (starEach [] X.env)).any (·.1) = false) aPl) :
    EV X Γ (.Call (.Name "len" p) [e] [] pos) (xs.l.length : Int) :=
  ev_callB1 call_len_seq hm PySem.boot_len h (fun F H v Q s r q => by
    obtain ⟨a, rfl, ha⟩ := r
    exact ⟨a, _, rfl, .inl (s.seq ha), q _ F H (Ext.refl s) (by rw [List.length_map]; rfl)⟩) hg (by decide) (by decide) hs hpl
theorem ev_lenS {x : Tx} (hm : X.mg "len" = none) (h : EV X Γ e x) (hz : x.length ≤ sizeLine) (hg : autoParam (Gl X "len") aRfl) (hs : autoParam (starEach [e] X.env = (false, eval e X.env) :: starEach [] X.env) aStar) (hpl : autoParam ((backTo pos (starEach [] X.env)).any (·.1) = false) aPl) :
    EV X Γ (.Call (.Name "len" p) [e] [] pos) (x.length : Int) :=
  ev_callB1 call_len_str hm PySem.boot_len h (fun F H v Q s r q => ⟨sx x, by rw [show v = V.str (sx x) from r], by rw [sx_len]; exact hz, q _ F H (Ext.refl s) (by rw [sx_len]; rfl)⟩) hg (by decide) (by decide) hs hpl
theorem ev_ixL {xs : List α} {n : Int} {x : α} (ha : EV X Γ a xs) (hb : EV X Γ b n) (hx : atI xs n = some x) (hp : autoParam (PlainIx b) Tw.aIR2) : EV X Γ (.Subscript a b pos) x := fun B F H σ Q L q =>
  WE.of (pe_ix ix_list peW peW hp) (ha B F H σ _ L fun v F1 H1 e1 r1 => hb B F1 H1 σ _ (L.step e1) fun u F2 H2 e2 r2 => by
    obtain ⟨ad, vs, rfl, h1, pr⟩ := r1
    obtain ⟨k, hk, hx⟩ := Option.bind_eq_some_iff.mp hx
    obtain ⟨w, hw, rw'⟩ := pgetL pr hx
    have s2 := (L.step (e1.trans e2)).same
    exact ⟨ad, vs, n, w, rfl, r2, sq_of s2 (e2.ff _ _ h1), by unfold atI; rw [Paired.length pr, hk]; exact hw, q w F2 H2 (e1.trans e2) (i.mono e2.ff rw')⟩)
theorem ev_ixT {xs : Tup α} {n : Int} {x : α} (ha : EV X Γ a xs) (hb : EV X Γ b n) (hx : atI xs.l n = some x) (hp : autoParam (PlainIx b) Tw.aIR2) : EV X Γ (.Subscript a b pos) x := fun B F H σ Q L q =>
  WE.of (pe_ix ix_tup peW peW hp) (ha B F H σ _ L fun v F1 H1 e1 r1 => hb B F1 H1 σ _ (L.step e1) fun u F2 H2 e2 r2 => by
    obtain ⟨ad, vs, rfl, h1, pr⟩ := r1
    obtain ⟨k, hk, hx⟩ := Option.bind_eq_some_iff.mp hx
    obtain ⟨w, hw, rw'⟩ := pgetL pr hx
    have s2 := (L.step (e1.trans e2)).same
    exact ⟨ad, vs, n, w, rfl, r2, st_of s2 (e2.ff _ _ h1), by unfold atI; rw [Paired.length pr, hk]; exact hw, q w F2 H2 (e1.trans e2) (i.mono e2.ff rw')⟩)
theorem ev_ixScr {xs : Scr} {n : Int} {x : Int} (ha : EV X Γ a xs) (hb : EV X Γ b n) (hx : atI xs.l n = some x) (hp : autoParam (PlainIx b) Tw.aIR2) : EV X Γ (.Subscript a b pos) x := fun B F H σ Q L q =>
  WE.of (pe_ix ix_list peW peW hp) (ha B F H σ _ L fun v F1 H1 e1 r1 => hb B F1 H1 σ _ (L.step e1) fun u F2 H2 e2 r2 => by
    obtain ⟨ad, rfl, h1⟩ := r1
    obtain ⟨k, hk, hx⟩ := Option.bind_eq_some_iff.mp hx
    have s2 := (L.step (e1.trans e2)).same
    exact ⟨ad, _, n, .int x, rfl, r2, s2.seq (e2.ff.seq h1), by unfold atI; rw [List.length_map, hk]; show (xs.l.map V.int)[k]? = _; rw [List.getElem?_map, hx]; rfl, q _ F2 H2 (e1.trans e2) rfl⟩)
theorem ev_ixS {x : Tx} {n : Int} {z : Nat} (ha : EV X Γ a x) (hb : EV X Γ b n) (hx : atI x n = some z) (hz : x.length ≤ sizeLine) (hp : autoParam (PlainIx b) Tw.aIR2) : EV X Γ (.Subscript a b pos) ([z] : Tx) := fun B F H σ Q L q =>
  WE.of (pe_ix ix_str peW peW hp) (ha B F H σ _ L fun v F1 H1 e1 r1 => hb B F1 H1 σ _ (L.step e1) fun u F2 H2 e2 r2 =>
    ⟨sx x, n, z, r1, r2, by rw [sx_len]; exact hz, hx, q _ F2 H2 (e1.trans e2) rfl⟩)
noncomputable def EO (X : Cx) (Γ : List Slot) (e : Option Expr) (o : Option Int) : Prop := match e, o with
  | none, none => True
  | some e, some n => EV X Γ e n
  | _, _ => False
noncomputable def WO (X : Cx) (e : Option Expr) (Γ : List Slot) : TO := match e with
  | none => tNoPart
  | some e => tPart (WE X e)
theorem poW {e : Option Expr} : PO X e (WO X e Γ) := by
  cases e with
  | none => exact po_none
  | some e => exact po_some peW
theorem eo_run {e : Option Expr} {o : Option Int} (h : EO X Γ e o) {B : Bs} {F H : Hp} {σ : L2.St} {Q : Option Int → Hp → Prop} (L : Lc X.K B F H σ Γ) (q : ∀ F' H', Ext F H F' H' → Q o H') : WO X e Γ σ H Q := by
  cases e with
  | none =>
    cases o with
    | none => exact q F H (Ext.refl L.same)
    | some n => exact h.elim
  | some e =>
    cases o with
    | none => exact h.elim
    | some n => exact h B F H σ _ L fun v F1 H1 e1 r1 => ⟨n, r1, q F1 H1 e1⟩
noncomputable def cutL {A : Type} (xs : List A) (lo hi : Option Int) : List A := (xs.drop (HT.sIx xs.length 0 lo)).take (HT.sIx xs.length xs.length hi - HT.sIx xs.length 0 lo)
theorem ev_sliceS {p2 : Pos} {lo hi : Option Expr} {o1 o2 : Option Int} {x : Tx} (ha : EV X Γ a x) (hl : EO X Γ lo o1) (hh : EO X Γ hi o2) (hz : x.length ≤ sizeLine) : EV X Γ (.Subscript a (.Slice lo hi none p2) pos) (cutL x o1 o2) := fun B F H σ Q L q =>
  WE.of (pe_slice sl_str peW (poW (Γ := Γ)) (poW (Γ := Γ))) (ha B F H σ _ L fun v F1 H1 e1 r1 => eo_run hl (L.step e1) fun F2 H2 e2 => eo_run hh (L.step (e1.trans e2)) fun F3 H3 e3 =>
    ⟨sx x, r1, by rw [sx_len]; exact hz, q _ F3 H3 ((e1.trans e2).trans e3) (congrArg V.str (by
      unfold cutS cutL
      rw [sx_len]
      rfl))⟩)
end
end Tw
namespace Tw
open PySem PySem.Spec PyProof.Rows L2 TL
section
variable {X : Cx} {Γ : List Slot} {α β γ : Type} {i : Rep α} {j : Rep β} {l : Rep γ} {pos p : Pos} {e a b c : Expr} {es : List Expr} {E : SE} {rest body : List Stmt}
theorem ED.seq {B : Bs} {F0 : Hp} {D : Ends} (ed : ED X B F0 E D) : ED X B F0 { E with nx := fun Γ' => ST X rest Γ' E } { D with nx := fun σ' H' => WP X rest D σ' H' } :=
  ⟨fun F H σ Γ s h L => h B F H σ D L (ed.weak s), ed.rt, ed.bk, ed.ct, ed.ex⟩
theorem st_nil (h : E.nx Γ) : ST X [] Γ E := fun B F H σ D L ed => WP.of pss_nil (ed.nx F H σ Γ (Same.refl F) h L)
theorem st_set (k : Nat) {n : Str} {x : α} (he : EV X Γ e x) (hr : ST X rest (Γ.set k (.val i x)) E) (hN : X.N.Nodup) (hi : autoParam (X.N[k]? = some n) aRfl) (hx : autoParam (L2.Loc X.env.scope n) aLoc)
    (hs : autoParam (swapsWith e (some (.Name n p)) pos.line X.env = pure false) aRfl) (hf : autoParam (X.fn n = true ∨ X.env.scope.names.lookup n = some .local) Tw.aFn) : ST X (.Assign [.Name n p] e pos :: rest) Γ E := fun B F H σ D L ed =>
  WP.cons (ps_set hN hi hx peW hs hf) (he B F H σ _ L fun v F1 H1 e1 r1 => hr B F1 H1 _ D ((L.step e1).putV k r1) (ed.weak e1.ff))
theorem st_setN (k : Nat) {n : Str} {xs : List α} (he : EN X Γ e xs) (hr : ∀ ad, ST X rest (Γ.set k (.lst i ad xs)) E) (hN : X.N.Nodup) (hi : autoParam (X.N[k]? = some n) aRfl) (hx : autoParam (L2.Loc X.env.scope n) aLoc)
    (hs : autoParam (swapsWith e (some (.Name n p)) pos.line X.env = pure false) aRfl) (hf : autoParam (X.fn n = true ∨ X.env.scope.names.lookup n = some .local) Tw.aFn) : ST X (.Assign [.Name n p] e pos :: rest) Γ E := fun B F H σ D L ed =>
  WP.cons (ps_set hN hi hx peW hs hf) (he B F H σ _ L fun ad vs F1 H1 e1 ha fa h1 pr => hr ad B F1 H1 _ D (L.putL k e1 ha fa h1 pr) (ed.weak e1.ff))
theorem st_ret {P : Ret → Prop} (he : EX X Γ e P) (hP : ∀ r, P r → E.rt r) : ST X (.Return (some e) pos :: rest) Γ E := fun B F H σ D L ed =>
  WP.cons (ps_ret peW) (he B F H σ _ L fun r v F1 H1 hr e1 ok => ed.rt r v F1 H1 (hP r hr) (L.step e1).ext (ok.imp fun b h => L.nw h))
theorem st_retV {x : α} (he : EV X Γ e x) (hP : E.rt (.val i x)) : ST X (.Return (some e) pos :: rest) Γ E := st_ret (P := fun r => r = .val i x) (ex_of_ev he rfl) fun r h => h ▸ hP
theorem st_retE {xs : List α} (he : EN X Γ e xs) (hP : E.rt (.new i xs)) : ST X (.Return (some e) pos :: rest) Γ E := st_ret (P := fun r => r = .new i xs) (ex_of_en he rfl) fun r h => h ▸ hP
theorem st_retL (k : Nat) {n : Str} {ad : Addr} {xs : List α} (hP : E.rt (.new i xs)) (hN : autoParam (X.N[k]? = some n) aRfl) (hv : autoParam (Vis X.env.scope n) aVis) (hd : autoParam ((n == ("__debug__" : Str)) = false) aDec)
    (hcd : autoParam ((n == ("__classdict__" : Str)) = false) aDec) (hg : autoParam (Γ[k]? = some (.lst i ad xs)) aRfl) : ST X (.Return (some (.Name n p)) pos :: rest) Γ E := fun B F H σ D L ed => by
  obtain ⟨vs, ea, fa, ba, ha, pr⟩ := slot_lst L hg
  exact WP.cons (ps_ret (pe_var hN hv hd hcd)) ⟨_, ea, ed.rt _ _ F H hP L.ext ⟨ad, vs, rfl, ba, fa, ha, pr⟩⟩
theorem st_if {k : Bool} {A C : List Stmt} (hc : ET X Γ c k) (hA : k = true → ST X A Γ { E with nx := fun Γ' => ST X rest Γ' E }) (hC : k = false → ST X C Γ { E with nx := fun Γ' => ST X rest Γ' E }) : ST X (.If c A C pos :: rest) Γ E := fun B F H σ D L ed =>
  WP.cons (ps_if ptW psW psW) (hc B F H σ _ L fun F1 H1 e1 => by
    cases k with
    | true => exact hA rfl B F1 H1 σ _ (L.step e1) ((ed.weak e1.ff).seq)
    | false => exact hC rfl B F1 H1 σ _ (L.step e1) ((ed.weak e1.ff).seq))
theorem st_break (h : E.bk Γ) : ST X (.Break pos :: rest) Γ E := fun B F H σ D L ed => WP.cons ps_break (ed.bk F H σ Γ (Same.refl F) h L)
theorem st_drop {P : Ret → Prop} (he : EX X Γ e P) (hr : ST X rest Γ E) (hs : autoParam (swapsWith e none pos.line X.env = pure false) aRfl) : ST X (.Expr e pos :: rest) Γ E := fun B F H σ D L ed =>
  WP.cons (ps_expr peW hs) (he B F H σ _ L fun r v F1 H1 _ e1 _ => hr B F1 H1 σ D (L.step e1) (ed.weak e1.ff))
theorem st_append (k : Nat) {n : Str} {ad : Addr} {xs : List α} {x : α} {apos cpos : Pos} (he : EV X Γ e x) (hr : ST X rest (Γ.set k (.lst i ad (xs ++ [x]))) E) (hz : xs.length < sizeLine) (hg : autoParam (Γ[k]? = some (.lst i ad xs)) aRfl) (hN : autoParam (X.N[k]? = some n) aRfl)
    (hv : autoParam (Vis X.env.scope n) aVis) (hd : autoParam ((n == ("__debug__" : Str)) = false) aDec) (hcd : autoParam ((n == ("__classdict__" : Str)) = false) aDec)
    (hbase : autoParam (attributeBase (.Name n p) "append" X.env (eval (.Name n p) X.env) = eval (.Name n p) X.env) aRfl)
    (hfew : autoParam (((backTo cpos (starEach [e] X.env)).all (fun x => !x.1) && (backToKw cpos (keywordEach [] X.env)).all (fun x => x.1.isSome) && decide ([e].length + ([] : List Keyword).length + (if ([] : List Keyword).isEmpty then 0 else 1) < 30)) = true) aRfl)
    (hline : autoParam ((apos.endLine == cpos.line) = true) aRfl) (hs : autoParam (starEach [e] X.env = (false, eval e X.env) :: starEach [] X.env) aStar) (hplain : autoParam ((backTo cpos (starEach [] X.env)).any (·.1) = false) aRfl)
    (hsw : autoParam (swapsWith (.Call (.Attribute (.Name n p) "append" apos) [e] [] cpos) none pos.line X.env = pure false) aRfl) :
    ST X (.Expr (.Call (.Attribute (.Name n p) "append" apos) [e] [] cpos) pos :: rest) Γ E := fun B F H σ D L ed => by
  obtain ⟨vs, ea, fa, ba, ha, pr⟩ := slot_lst L hg
  refine WP.cons (ps_expr (pe_bm PySem.F.plainAttrs_list PySem.F.slot_list_append PySem.F.type_list_append mt_append (pe_var hN hv hd hcd) (pa_cons peW pa_nil hs) hbase hfew hline hs hplain) hsw) ?_
  refine ⟨_, ea, .inl ⟨rfl, _, .inl (.inl ha)⟩, he B F H σ _ L fun v F1 H1 e1 r1 => ?_⟩
  have L1 := L.step e1
  obtain ⟨vs1, _, _, _, ha1, pr1⟩ := slot_lst L1 hg
  refine ⟨ad, vs1, v, rfl, rfl, ha1, by rw [Paired.length pr1]; exact hz, ?_⟩
  exact hr B F1 _ σ D (L1.updL hg (papp pr1 (.cons r1 .nil))) (ed.weak e1.ff)
noncomputable def Yields (K : PySem.W.Frag) (J : It) (F1 : Hp) {α : Type} [i : Rep α] (xs : List α) : Prop :=
  ∀ F2 H2, Same F1 F2 → Same F2 H2 → (∀ (k : Nat) x, xs[k]? = some x → J.go k H2 ∧ ∀ v H3, J.yld k H2 v H3 → ∃ F3, Ext F2 H2 F3 H3 ∧ i.rp K F3 v x) ∧ J.stop xs.length H2
noncomputable def Src (X : Cx) (Γ : List Slot) (tg it : Expr) {α : Type} [i : Rep α] (xs : List α) : Prop :=
  ∃ wi, PI X tg it wi ∧ ∀ B F H σ R, Lc X.K B F H σ Γ → (∀ J F1 H1, Ext F H F1 H1 → Yields X.K J F1 xs → R J H1) → wi σ H R
variable {tg it : Expr}
theorem src_list {xs : List α} (h : EV X Γ it xs) : Src X Γ tg it xs := ⟨_, pi_list peW, fun B F H σ R L q => h B F H σ _ L fun v F1 H1 e1 r1 => by
  obtain ⟨ad, vs, rfl, ha, pr⟩ := r1
  refine ⟨ad, rfl, ⟨vs, sq_of (L.step e1).same ha⟩, q _ F1 H1 e1 fun F2 H2 s1 s2 => ⟨fun k x hx => ?_, vs, sq_of s2 (s1 _ _ ha), by rw [Paired.length pr]; exact Nat.le_refl _⟩⟩
  obtain ⟨w, hw, rw'⟩ := pgetL pr hx
  refine ⟨⟨vs, w, sq_of s2 (s1 _ _ ha), hw⟩, fun v H3 hy => ?_⟩
  obtain ⟨rfl, hy⟩ := hy
  have : v = w := Option.some.inj ((hy vs (sq_of s2 (s1 _ _ ha))).symm.trans hw)
  subst this
  exact ⟨F2, Ext.refl s2, i.mono s1 rw'⟩⟩
theorem src_tup {xs : Tup α} (h : EV X Γ it xs) : Src X Γ tg it xs.l := ⟨_, pi_tup peW, fun B F H σ R L q => h B F H σ _ L fun v F1 H1 e1 r1 => by
  obtain ⟨ad, vs, rfl, ha, pr⟩ := r1
  refine ⟨ad, rfl, ⟨vs, st_of (L.step e1).same ha⟩, q _ F1 H1 e1 fun F2 H2 s1 s2 => ⟨fun k x hx => ?_, vs, st_of s2 (s1 _ _ ha), by rw [Paired.length pr]; exact Nat.le_refl _⟩⟩
  obtain ⟨w, hw, rw'⟩ := pgetL pr hx
  refine ⟨⟨vs, w, st_of s2 (s1 _ _ ha), hw⟩, fun v H3 hy => ?_⟩
  obtain ⟨rfl, hy⟩ := hy
  have : v = w := Option.some.inj ((hy vs (st_of s2 (s1 _ _ ha))).symm.trans hw)
  subst this
  exact ⟨F2, Ext.refl s2, i.mono s1 rw'⟩⟩
theorem src_rev {xs : List α} {p2 : Pos} (hm : X.mg "reversed" = none) (h : EV X Γ it xs) (hg : autoParam (Gl X "reversed") aRfl) (hs : autoParam (starEach [it] X.env = [(false, eval it X.env)]) aStar) : Src X Γ tg (.Call (.Name "reversed" p) [it] [] p2) xs.reverse := ⟨_, pi_reversed hg hm (pa_cons peW pa_nil hs) hs, fun B F H σ R L q => h B F H σ _ L fun v F1 H1 e1 r1 => by
  obtain ⟨ad, vs, rfl, ha, pr⟩ := r1
  refine ⟨ad, vs, rfl, sq_of (L.step e1).same ha, q _ F1 H1 e1 fun F2 H2 s1 s2 => ⟨fun k x hx => ?_, by show vs.length ≤ _; rw [Paired.length pr, List.length_reverse]; exact Nat.le_refl _⟩⟩
  have hk : k < xs.length := by have := (List.getElem?_eq_some_iff.mp hx).1; simpa using this
  rw [List.getElem?_reverse hk] at hx
  obtain ⟨w, hw, rw'⟩ := pgetL pr hx
  rw [← Paired.length pr] at hw hk
  refine ⟨⟨hk, vs, w, sq_of s2 (s1 _ _ ha), hw⟩, fun v H3 hy => ?_⟩
  obtain ⟨rfl, hy⟩ := hy
  have : v = w := Option.some.inj ((hy vs (sq_of s2 (s1 _ _ ha))).symm.trans hw)
  subst this
  exact ⟨F2, Ext.refl s2, i.mono s1 rw'⟩⟩
theorem src_str {x : Tx} (h : EV X Γ it x) : Src X Γ tg it (x.map fun c => ([c] : Tx)) := ⟨_, pi_str peW, fun B F H σ R L q => h B F H σ _ L fun v F1 H1 e1 r1 => by
  obtain rfl : v = .str (sx x) := r1
  refine ⟨sx x, rfl, q _ F1 H1 e1 fun F2 H2 s1 s2 => ⟨fun k y hy => ?_, by show x.toArray.size ≤ _; simp⟩⟩
  have hk : k < x.length := by have := (List.getElem?_eq_some_iff.mp hy).1; simpa using this
  refine ⟨by show k < x.toArray.size; simpa using hk, fun v H3 hv => ?_⟩
  obtain ⟨rfl, c, hc, rfl⟩ := hv
  refine ⟨F2, Ext.refl s2, ?_⟩
  rw [List.getElem?_map] at hy
  have hc' : x[k]? = some c := by simpa [sx] using hc
  rw [hc'] at hy
  obtain rfl : ([c] : Tx) = y := Option.some.inj hy
  rfl⟩
noncomputable def rng (lo : Int) (n : Nat) : List Int := (List.range n).map fun (k : Nat) => lo + (k : Int)
theorem rng_get {lo : Int} {n k : Nat} {x : Int} (h : (rng lo n)[k]? = some x) : k < n ∧ x = lo + k := by
  unfold rng at h
  rw [List.getElem?_map] at h
  by_cases hk : k < n
  · rw [List.getElem?_range hk] at h
    exact ⟨hk, (Option.some.inj h).symm⟩
  · rw [List.getElem?_eq_none (by simpa using hk)] at h; cases h
theorem rng_len {lo : Int} {n : Nat} : (rng lo n).length = n := by unfold rng; simp
theorem yields_rng {K : PySem.W.Frag} {F1 : Hp} {lo : Int} {n : Nat} : Yields K (Itr lo n) F1 (rng lo n) := fun F2 H2 s1 s2 => ⟨fun k x hx => by
  obtain ⟨hk, rfl⟩ := rng_get hx
  exact ⟨hk, fun v H3 hy => by obtain ⟨rfl, rfl⟩ := hy; exact ⟨F2, Ext.refl s2, rfl⟩⟩, by show n ≤ _; rw [rng_len]; exact Nat.le_refl _⟩
theorem src_range {n : Int} {p2 : Pos} (hm : X.mg "range" = none) (h : EV X Γ it n) (h1 : -(2 ^ 62) ≤ n) (h2 : n < 2 ^ 62) (hg : autoParam (Gl X "range") aRfl) (hs : autoParam (starEach [it] X.env = [(false, eval it X.env)]) aStar) : Src X Γ tg (.Call (.Name "range" p) [it] [] p2) (rng 0 n.toNat) :=
  ⟨_, pi_range1 hg hm (pa_cons peW pa_nil hs) hs, fun B F H σ R L q => h B F H σ _ L fun v F1 H1 e1 r1 => by
    obtain rfl : v = .int n := r1
    exact ⟨n, rfl, h1, h2, q _ F1 H1 e1 yields_rng⟩⟩
theorem src_range2 {m n : Int} {p2 : Pos} (hm : X.mg "range" = none) (ha : EV X Γ a m) (hb : EV X Γ b n) (h : -(2 ^ 62) ≤ m ∧ m < 2 ^ 62 ∧ -(2 ^ 62) ≤ n ∧ n < 2 ^ 62) (hg : autoParam (Gl X "range") aRfl)
    (hs : autoParam (starEach [a, b] X.env = [(false, eval a X.env), (false, eval b X.env)]) aStar) (hs2 : autoParam (starEach [b] X.env = [(false, eval b X.env)]) aStar) : Src X Γ tg (.Call (.Name "range" p) [a, b] [] p2) (rng m (n - m).toNat) :=
  ⟨_, pi_range2 hg hm (pa_cons peW (pa_cons peW pa_nil hs2) (by rw [hs, hs2])) hs hs2, fun B F H σ R L q => ha B F H σ _ L fun v F1 H1 e1 r1 => hb B F1 H1 σ _ (L.step e1) fun u F2 H2 e2 r2 => by
    obtain rfl : v = .int m := r1
    obtain rfl : u = .int n := r2
    exact ⟨m, n, rfl, h, q _ F2 H2 (e1.trans e2) yields_rng⟩⟩
theorem wipe_get {σ : L2.St} {k : Nat} : ∀ vs : List Nat, (wipe σ vs)[k]? = if k ∈ vs then (σ[k]?).map (fun _ => none) else σ[k]?
  | [] => by simp [wipe]
  | v :: vs => by
    unfold wipe
    by_cases h : v = k
    · subst h
      rw [if_pos (List.mem_cons_self ..), List.getElem?_set]
      rw [if_pos rfl]
      by_cases hl : v < σ.length
      · rw [if_pos (by rw [wipe_length]; exact hl), List.getElem?_eq_getElem hl]; rfl
      · rw [if_neg (by rw [wipe_length]; exact hl), List.getElem?_eq_none (by omega)]; rfl
    · rw [List.getElem?_set_ne h, wipe_get vs]
      have : (k ∈ v :: vs) ↔ k ∈ vs := by simp [Ne.symm h]
      simp only [this]
theorem wipe_wipe (σ : L2.St) (vs : List Nat) : wipe (wipe σ vs) vs = wipe σ vs := by
  refine List.ext_getElem? fun k => ?_
  rw [wipe_get, wipe_get]
  split
  · cases σ[k]? <;> rfl
  · rfl
noncomputable def wipeS (Γ : List Slot) : List Nat → List Slot
  | [] => Γ
  | v :: vs => (wipeS Γ vs).set v .no
theorem Lc.wipe {K : PySem.W.Frag} {B : Bs} {F H : Hp} {σ : L2.St} {Γ : List Slot} (L : Lc K B F H σ Γ) : ∀ vs : List Nat, Lc K B F H (L2.wipe σ vs) (wipeS Γ vs)
  | [] => L
  | v :: vs => (L.wipe vs).putN v none
structure Tg (K : PySem.W.Frag) (g : TG) {α : Type} [i : Rep α] (bind : α → List Slot → List Slot) (vs : List Nat) : Prop where
  run : ∀ B F H σ Γ v x Q, Lc K B F H σ Γ → i.rp K F v x → (∀ σ2, Lc K B F H σ2 (bind x Γ) → wipe σ2 vs = wipe σ vs → Q σ2 H) → g v σ H Q
theorem tg_name {K : PySem.W.Frag} (k : Nat) : Tg K (gName k) (fun (x : α) Γ => Γ.set k (.val i x)) [k] := ⟨fun B F H σ Γ v x Q L r q => q _ (L.putV k r) (by show (σ.set k (some v)).set k none = σ.set k none; rw [List.set_set])⟩
theorem tg_pair {K : PySem.W.Frag} (k m : Nat) (hkm : k ≠ m) : Tg K (gTup K 2 (gCons (gName k) (gCons (gName m) gNil))) (fun (x : α × β) Γ => (Γ.set k (.val i x.1)).set m (.val j x.2)) [k, m] := ⟨fun B F H σ Γ v x Q L r q => by
  obtain ⟨ad, u, w, rfl, ha, r1, r2⟩ := r
  refine ⟨ad, [u, w], rfl, st_of L.same ha, rfl, u, [w], rfl, w, [], rfl, rfl, q _ ((L.putV k r1).putV m r2) ?_⟩
  show ((((σ.set k (some u)).set m (some w)).set m none).set k none) = (σ.set m none).set k none
  rw [List.set_set, List.set_comm _ _ hkm, List.set_set]⟩
theorem st_for {xs : List α} {bind : α → List Slot → List Slot} {vs : List Nat} {g : TG} (P : Nat → List Slot → Prop) (hS : Src X Γ tg it xs) (hT : Tg X.K g bind vs) (h0 : P 0 Γ)
    (hb : ∀ (k : Nat) x Γ', xs[k]? = some x → P k Γ' → ST X body (bind x Γ') { nx := P (k + 1), ct := P (k + 1), bk := fun Γ2 => ST X rest Γ2 E, rt := E.rt, ex := E.ex })
    (hd : ∀ Γ', P xs.length Γ' → ST X rest Γ' E) (hg : PG X tg g) (hp : autoParam (PassesOwn (model X.prog X.w) X.A X.env X.xe) Tw.aPass) (hc : autoParam (X.calm = true) aRfl) (hs : autoParam (∀ x, foldedSetIterable it X.env x = pure x) Tw.aIR1) :
    ST X (.For tg it body [] pos :: rest) Γ E := fun B F H σ D L ed => by
  obtain ⟨wi, hi, run⟩ := hS
  refine WP.cons (ps_for hp hc hi hg psW hs) (run B F H σ _ L fun J F1 H1 e1 Y => ?_)
  have L1 := L.step e1
  refine ⟨fun t m σ H => m = xs.length - t ∧ t ≤ xs.length ∧ ∃ F2 Γ', P t Γ' ∧ Same F1 F2 ∧ Lc X.K B F2 H σ Γ', ⟨xs.length, rfl, Nat.zero_le _, F1, Γ, h0, Same.refl _, L1⟩, ?_⟩
  rintro t m σ H ⟨rfl, ht, F2, Γ', hP, s12, L2⟩
  have Y2 := Y F2 H s12 L2.same
  by_cases hlt : t < xs.length
  · have hx : xs[t]? = some xs[t] := List.getElem?_eq_getElem hlt
    obtain ⟨go, yl⟩ := Y2.1 t _ hx
    refine .inr ⟨go, fun σ' H' => ∃ F3 Γ3, P (t + 1) Γ3 ∧ Same F1 F3 ∧ Lc X.K B F3 H' σ' Γ3, fun σ' H' h => ⟨xs.length - (t + 1), by omega, rfl, hlt, h⟩, fun v H3 hy => ?_⟩
    obtain ⟨F3, e3, r3⟩ := yl v H3 hy
    refine hT.run B F3 H3 σ Γ' v _ _ (L2.step e3) r3 fun σ2 L4 _ => ?_
    refine hb t _ Γ' hx hP B F3 H3 σ2 _ L4 ⟨fun F5 H5 σ5 Γ5 s5 h5 L5 => ?_, ed.rt, fun F5 H5 σ5 Γ5 s5 h5 L5 => h5 B F5 H5 σ5 D L5 (ed.weak (e1.ff.trans (s12.trans (e3.ff.trans s5)))), fun F5 H5 σ5 Γ5 s5 h5 L5 => ?_, fun F5 H5 σ5 Γ5 x u d s5 h5 L5 => ed.ex F5 H5 σ5 Γ5 x u d (e1.ff.trans (s12.trans (e3.ff.trans s5))) h5 L5⟩
    · exact ⟨F5, Γ5, h5, s12.trans (e3.ff.trans s5), L5⟩
    · exact ⟨F5, Γ5, h5, s12.trans (e3.ff.trans s5), L5⟩
  · have et : t = xs.length := by omega
    subst et
    exact .inl ⟨Y2.2, hd Γ' hP B F2 H σ D L2 (ed.weak (e1.ff.trans s12))⟩
end
end Tw
namespace Tw
open PySem PySem.Spec PyProof.Rows L2 TL
section
variable {X : Cx} {Γ : List Slot} {α β γ : Type} {i : Rep α} {j : Rep β} {l : Rep γ} {pos p : Pos} {e a b c elt tg it : Expr} {es : List Expr} {E : SE} {rest body : List Stmt}
noncomputable abbrev Blk (X : Cx) (scope : Scope) (s : Shared) (H : Hp) (C : Addr) (cl : List (Str × Addr)) (fp : List Addr) : Cx := X.blk s H scope (compEnvC scope cl C X.env) fp
noncomputable def tBlkE (X : Cx) (scope : Scope) (e : Expr) : TE := fun σ H Q => ∀ s H0 C cl fp, WE (Blk X scope s H0 C cl fp) e σ H Q
noncomputable def tBlkT (X : Cx) (scope : Scope) (e : Expr) : TT := fun σ H Q => ∀ s H0 C cl fp, WT (Blk X scope s H0 C cl fp) e σ H Q
theorem lc_run {scope : Scope} {xs : List α} {f : α → β} {q : α → Bool} {bind : α → List Slot → List Slot} {vs : List Nat} {g : TG} {tt : TT} {wi : TI} {B : Bs} {F H : Hp} {σ : L2.St} {Q : VK} (L : Lc X.K B F H σ Γ)
    (run : ∀ R, (∀ J F1 H1, Ext F H F1 H1 → Yields X.K J F1 xs → R J H1) → wi σ H R) (hT : Tg X.K g bind vs)
    (ht : ∀ x ∈ xs, ∀ B F H σ R, Lc X.K B F H σ (bind x (wipeS Γ vs)) → (∀ F' H', Ext F H F' H' → R (q x) H') → tt σ H R)
    (he : ∀ x ∈ xs, q x = true → ∀ s H C cl fp, EV (Blk X scope s H C cl fp) (bind x (wipeS Γ vs)) elt (f x)) (hz : xs.length ≤ sizeLine)
    (k : ∀ a vs F' H', Ext F H F' H' → H a = none → F' a = none → H' a = some (.lst vs) → Paired (fun u x => j.rp X.K F' u x) vs ((xs.filter q).map f) → Q (.ref a) H') : tLc wi g tt (tBlkE X scope elt) vs σ H Q := by
  refine run _ fun J F1 H1 e1 Y D hD => ?_
  have L1 := L.step e1
  refine ⟨fun t m H' => m = xs.length - t ∧ t ≤ xs.length ∧ ∃ F2 acc, Ext F1 H1 F2 H' ∧ F2 D = none ∧ H' D = some (.lst acc) ∧ acc.length ≤ t ∧ Paired (fun u x => j.rp X.K F2 u x) acc (((xs.take t).filter q).map f),
    ⟨xs.length, rfl, Nat.zero_le _, F1, [], Ext.apart L1.same hD, L1.same.free hD, upd_same, Nat.le_refl _, .nil⟩, ?_⟩
  rintro t m H2 ⟨rfl, ht', F2, acc, e2, fD, hD2, hl, pr⟩
  have Y2 := Y F2 H2 e2.ff e2.fh
  by_cases hlt : t < xs.length
  · have hx : xs[t]? = some xs[t] := List.getElem?_eq_getElem hlt
    have hmem : xs[t] ∈ xs := List.getElem_mem hlt
    obtain ⟨go, yl⟩ := Y2.1 t _ hx
    refine .inr ⟨go, fun H' => ∃ F3 acc, Ext F1 H1 F3 H' ∧ F3 D = none ∧ H' D = some (.lst acc) ∧ acc.length ≤ t + 1 ∧ Paired (fun u x => j.rp X.K F3 u x) acc (((xs.take (t + 1)).filter q).map f), fun H' h => ⟨xs.length - (t + 1), by omega, rfl, hlt, h⟩, fun v H3 hy => ?_⟩
    obtain ⟨F3, e3, r3⟩ := yl v H3 hy
    have L3 := ((L1.step e2).wipe vs).step e3
    refine hT.run B F3 H3 _ _ v _ _ L3 r3 fun σ2 L4 hw => ⟨by rw [hw, wipe_wipe], ?_⟩
    refine ht _ hmem B F3 H3 σ2 _ L4 fun F4 H4 e4 => ?_
    have e34 := e3.trans e4
    have fD4 : F4 D = none := e34.nw D fD (by rw [hD2]; exact fun z => nomatch z)
    have etake : xs.take (t + 1) = xs.take t ++ [xs[t]] := by rw [List.take_add_one, hx]; rfl
    by_cases hq : q xs[t] = true
    · rw [if_pos hq]
      intro s H0 C cl fp
      refine he _ hmem hq s H0 C cl fp B F4 H4 σ2 _ (L4.step e4) fun w F5 H5 e5 r5 => ?_
      have e345 := e34.trans e5
      have hD5 : H5 D = some (.lst acc) := e345.hs _ _ hD2
      have fD5 : F5 D = none := e345.nw D fD (by rw [hD2]; exact fun z => nomatch z)
      have e25 := e2.trans e345
      refine ⟨acc, hD5, by omega, F5, acc ++ [w], ⟨e25.ff, same_upd e25.fh fD5, fun b o nb ob => ?_, e25.nwM, fun _ z => z.elim⟩, fD5, upd_same, by simp; exact hl, ?_⟩
      · rw [upd_ne (ne_of_none ob hD)]; exact e25.hh b o nb ob
      · rw [etake, List.filter_append, List.map_append]
        have : ([xs[t]].filter q).map f = [f xs[t]] := by rw [List.filter_cons_of_pos hq]; rfl
        rw [this]
        exact papp (Paired.mapP pr fun _ _ z => j.mono e345.ff z) (.cons r5 .nil)
    · rw [if_neg hq]
      refine ⟨F4, acc, e2.trans e34, fD4, e34.hs _ _ hD2, by omega, ?_⟩
      rw [etake, List.filter_append, List.map_append]
      have : ([xs[t]].filter q).map f = [] := by rw [List.filter_cons_of_neg hq]; rfl
      rw [this, List.append_nil]
      exact Paired.mapP pr fun _ _ z => j.mono e34.ff z
  · have et : t = xs.length := by omega
    subst et
    refine .inl ⟨Y2.2, k D acc F2 H2 (e1.trans e2) (e1.hs.free hD) fD hD2 ?_⟩
    rw [List.take_length] at pr
    exact pr
theorem filter_yes {A : Type} (xs : List A) : xs.filter (fun _ => true) = xs := List.filter_eq_self.mpr fun _ _ => rfl
theorem en_lc {scope : Scope} {own : List (Str × Nat)} {xs : List α} {f : α → β} {bind : α → List Slot → List Slot} {g : TG} (hS : Src X Γ tg it xs) (hT : Tg X.K g bind (own.map (·.2))) (hg : ∀ s H C cl fp, PG (Blk X scope s H C cl fp) tg g)
    (he : ∀ x ∈ xs, ∀ s H C cl fp, EV (Blk X scope s H C cl fp) (bind x (wipeS Γ (own.map (·.2)))) elt (f x)) (hN : X.N.Nodup) (ok : BlkOk X.N X.env.scope scope own := by exact blkOk_by (by decide +kernel)) (hz : xs.length ≤ sizeLine)
    (hc : autoParam (X.calm = true) aRfl) (hs : autoParam (∀ x, foldedSetIterable it X.env x = pure x) Tw.aIR1) : EN X Γ (.ListComp elt [⟨tg, it, [], 0⟩] scope pos) (xs.map f) := fun B F H σ Q L k => by
  obtain ⟨wi, hi, run⟩ := hS
  refine WE.of (pe_lc (te := tBlkE X scope elt) hc hN hi ok hg (fun _ _ _ _ _ => pts_nil) (fun s H C cl fp => ⟨fun pins s' σ H' Q' I h => (h s H C cl fp).go pins s' I⟩) hs) ?_
  refine lc_run (q := fun _ => true) L (fun R => run B F H σ R L) hT (fun x _ B F H σ R L h => h F H (Ext.refl L.same)) (fun x hx _ => he x hx) hz fun a vs F' H' e1 ha fa h' pr => k a vs F' H' e1 ha fa h' ?_
  rw [filter_yes] at pr
  exact pr
theorem en_lcIf {scope : Scope} {own : List (Str × Nat)} {xs : List α} {f : α → β} {q : α → Bool} {bind : α → List Slot → List Slot} {g : TG} (hS : Src X Γ tg it xs) (hT : Tg X.K g bind (own.map (·.2))) (hg : ∀ s H C cl fp, PG (Blk X scope s H C cl fp) tg g)
    (ht : ∀ x ∈ xs, ∀ s H C cl fp, ET (Blk X scope s H C cl fp) (bind x (wipeS Γ (own.map (·.2)))) c (q x))
    (he : ∀ x ∈ xs, q x = true → ∀ s H C cl fp, EV (Blk X scope s H C cl fp) (bind x (wipeS Γ (own.map (·.2)))) elt (f x)) (hN : X.N.Nodup) (ok : BlkOk X.N X.env.scope scope own := by exact blkOk_by (by decide +kernel)) (hz : xs.length ≤ sizeLine)
    (hc : autoParam (X.calm = true) aRfl) (hs : autoParam (∀ x, foldedSetIterable it X.env x = pure x) Tw.aIR1) : EN X Γ (.ListComp elt [⟨tg, it, [c], 0⟩] scope pos) ((xs.filter q).map f) := fun B F H σ Q L k => by
  obtain ⟨wi, hi, run⟩ := hS
  refine WE.of (pe_lc (te := tBlkE X scope elt) (tt := tBlkT X scope c) hc hN hi ok hg (fun s H C cl fp => pts_one ⟨fun pins s' σ H' Q' I h => (h s H C cl fp).go pins s' I⟩) (fun s H C cl fp => ⟨fun pins s' σ H' Q' I h => (h s H C cl fp).go pins s' I⟩) hs) ?_
  exact lc_run L (fun R => run B F H σ R L) hT (fun x hx B F H σ R L h => fun s H0 C cl fp => ht x hx s H0 C cl fp B F H σ R L h) he hz k
theorem st_setLc (m : Nat) {y : Str} {py spos : Pos} {scope : Scope} {own : List (Str × Nat)} {xs : List α} {f : α → β} {bind : α → List Slot → List Slot} {g : TG} (hS : Src X Γ tg it xs) (hT : Tg X.K g bind (own.map (·.2))) (hg : ∀ s H C cl fp, PG (Blk X scope s H C cl fp) tg g)
    (he : ∀ x ∈ xs, ∀ s H C cl fp, EV (Blk X scope s H C cl fp) (bind x (wipeS Γ (own.map (·.2)))) elt (f x)) (hN : X.N.Nodup) (hz : xs.length ≤ sizeLine) (hr : ∀ ad, ST X rest (Γ.set m (.lst j ad (xs.map f))) E)
    (ok : BlkOk X.N X.env.scope scope own := by exact blkOk_by (by decide +kernel)) (hy : autoParam (X.N[m]? = some y) aRfl) (hyl : autoParam (X.env.scope.names.lookup y = some .local) aRfl)
    (hsw : swapsWith (.ListComp elt [⟨tg, it, [], 0⟩] scope pos) (some (.Name y py)) spos.line X.env = pure true := by exact sw_true rfl rfl rfl (by decide +kernel))
    (hc : autoParam (X.calm = true) aRfl) (hs : autoParam (∀ x, foldedSetIterable it X.env x = pure x) Tw.aIR1) : ST X (.Assign [.Name y py] (.ListComp elt [⟨tg, it, [], 0⟩] scope pos) spos :: rest) Γ E := fun B F H σ D L ed => by
  obtain ⟨wi, hi, run⟩ := hS
  refine WP.cons (ps_setLc (te := tBlkE X scope elt) hc hN hy hyl hsw hi ok hg (fun _ _ _ _ _ => pts_nil) (fun s H C cl fp => ⟨fun pins s' σ H' Q' I h => (h s H C cl fp).go pins s' I⟩) hs) ?_
  refine lc_run (q := fun _ => true) L (fun R => run B F H σ R L) hT (fun x _ B F H σ R L h => h F H (Ext.refl L.same)) (fun x hx _ => he x hx) hz fun a vs F' H' e1 ha fa h' pr => ?_
  rw [filter_yes] at pr
  exact hr a B F' H' _ D (L.putL m e1 ha fa h' pr) (ed.weak e1.ff)
theorem ev_join {o : Expr} {sep : Tx} {xs : List Tx} {apos : Pos} (ho : EV X Γ o sep) (h : EV X Γ e xs) (hz : (xs.map (·.length)).sum + xs.length * sep.length ≤ 16777216) (hs : autoParam (starEach [e] X.env = [(false, eval e X.env)]) aStar)
    (hbase : autoParam (attributeBase o "join" X.env (eval o X.env) = eval o X.env) aRfl) (hline : autoParam ((apos.endLine == pos.line) = true) aRfl) : EV X Γ (.Call (.Attribute o "join" apos) [e] [] pos) (joinL sep xs) := fun B F H σ Q L q =>
  WE.of (pe_join peW peW hs hbase hline) (ho B F H σ _ L fun v F1 H1 e1 r1 => ⟨⟨_, r1⟩, h B F1 H1 σ _ (L.step e1) fun u F2 H2 e2 r2 => by
    obtain ⟨ad, vs, rfl, ha, pr⟩ := r2
    have s2 := (L.step (e1.trans e2)).same
    refine ⟨sx sep, ad, xs.map sx, r1, rfl, .inl (by rw [← Rps.strs pr]; exact sq_of s2 ha), ?_, q _ F2 H2 (e1.trans e2) (congrArg V.str ?_)⟩
    · rw [List.map_map, List.length_map, sx_len]
      have : ((fun y : Str => y.length) ∘ sx) = (fun x : Tx => x.length) := funext fun x => sx_len x
      rw [this]; exact hz
    · rw [join_eq]
      refine ext_tl ?_
      rw [tl_join, List.map_map]
      have : (tl ∘ sx) = (id : Tx → Tx) := funext fun x => tl_sx x
      rw [this, List.map_id]
      rfl⟩)
theorem joinL_one {x : Tx} : joinL [] (x.map fun c => ([c] : Tx)) = x := by
  have : ∀ (y : List Tx), joinL [] y = y.flatten := by
    intro y
    induction y with
    | nil => rfl
    | cons a r ih =>
      cases r with
      | nil => simp [joinL]
      | cons b r => rw [joinL, ih]; simp
  rw [this]
  induction x with
  | nil => rfl
  | cons a r ih => rw [List.map_cons, List.flatten_cons, ih]; rfl
theorem ev_joinRev {o : Expr} {x : Tx} {apos pos2 : Pos} (hm : X.mg "reversed" = none) (ho : EV X Γ o ([] : Tx)) (h : EV X Γ e x) (hz : x.length ≤ 16777216) (hg : autoParam (Gl X "reversed") aRfl) (hc : autoParam (X.calm = true) aRfl)
    (hs1 : autoParam (starEach [.Call (.Name "reversed" p) [e] [] pos2] X.env = [(false, eval (.Call (.Name "reversed" p) [e] [] pos2) X.env)]) aStar) (hs : autoParam (starEach [e] X.env = (false, eval e X.env) :: starEach [] X.env) aStar)
    (hbase : autoParam (attributeBase o "join" X.env (eval o X.env) = eval o X.env) aRfl) (hline : autoParam ((apos.endLine == pos.line) = true) aRfl) : EV X Γ (.Call (.Attribute o "join" apos) [.Call (.Name "reversed" p) [e] [] pos2] [] pos) (x.reverse) := fun B F H σ Q L q =>
  WE.of (pe_joinRev hc peW hg hm peW hs1 hs hbase hline) (ho B F H σ _ L fun v F1 H1 e1 r1 => ⟨⟨_, r1⟩, h B F1 H1 σ _ (L.step e1) fun u F2 H2 e2 r2 => by
    refine ⟨sx [], sx x, r1, r2, ?_, ?_, q _ F2 H2 (e1.trans e2) (congrArg V.str ?_)⟩
    · rw [sx_len]; exact Nat.le_trans hz (by decide)
    · rw [sx_len, sx_len]; show x.length + x.length * 0 ≤ _; omega
    · rw [join_eq]
      refine ext_tl ?_
      rw [tl_join, List.map_map]
      show joinL [] (x.reverse.map (tl ∘ RevS.one)) = _
      have : (tl ∘ RevS.one) = fun c => ([c] : Tx) := rfl
      rw [this, joinL_one]
      rfl⟩)
theorem en_list {xs : List α} (hm : X.mg "list" = none) (h : EV X Γ e xs) (hg : autoParam (Gl X "list") aRfl) (hs : autoParam (starEach [e] X.env = (false, eval e X.env) :: starEach [] X.env) aStar) (hpl : autoParam ((backTo pos (starEach [] X.env)).any (·.1) = false) aPl) :
    EN X Γ (.Call (.Name "list" p) [e] [] pos) xs := fun B F H σ Q L q =>
  WE.of (pe_callTy call_list_of hg hm (by decide +kernel) (pa_cons peW pa_nil hs) (by decide) (by decide) hs hpl) (h B F H σ _ L fun v F1 H1 e1 r1 => by
    obtain ⟨ad, vs, rfl, ha, pr⟩ := r1
    have s1 := (L.step e1).same
    exact ⟨ad, vs, rfl, .inl (sq_of s1 ha), fun q' hq => q q' vs F1 _ (e1.trans (Ext.apart s1 hq)) (e1.hs.free hq) (s1.free hq) upd_same pr⟩)
class Flat (α : Type) [i : Rep α] : Prop where
  fl : ∀ {K F F' v} {x : α}, i.rp K F v x → i.rp K F' v x
noncomputable instance : Flat Int := ⟨fun h => h⟩
noncomputable instance : Flat Bool := ⟨fun h => h⟩
noncomputable instance : Flat Unit := ⟨fun h => h⟩
noncomputable instance : Flat (List Nat) := ⟨fun h => h⟩
noncomputable def frz (F H : Hp) (ps : List Addr) : Hp := fun b => if b ∈ ps then H b else F b
theorem frz_in {F H : Hp} {ps : List Addr} {b : Addr} (h : b ∈ ps) : frz F H ps b = H b := if_pos h
theorem frz_out {F H : Hp} {ps : List Addr} {b : Addr} (h : b ∉ ps) : frz F H ps b = F b := if_neg h
theorem frz_le {F H : Hp} {ps : List Addr} (f : ∀ b ∈ ps, F b = none) : Same F (frz F H ps) := fun b u e => by
  rw [frz_out (fun hb => by rw [f b hb] at e; cases e)]; exact e
theorem frz_same {F H : Hp} {ps : List Addr} (s : Same F H) : Same (frz F H ps) H := fun b u e => by
  by_cases hb : b ∈ ps
  · rw [frz_in hb] at e; exact e
  · rw [frz_out hb] at e; exact s _ _ e
noncomputable def Froz (o : Own) {α : Type} [i : Rep α] (x : α) : Prop := ∀ {K : PySem.W.Frag} {F H : Hp} {v : V}, Same F H → o.ok K F H v → (∀ b ∈ o.fp, F b = none) → i.rp K (frz F H o.fp) v x
theorem frozL {a : Addr} {xs : List α} : Froz (ownL i a xs) xs := fun {K F H v} s ⟨e, vs, h, p⟩ f => ⟨a, vs, e, (frz_in (ps := [a]) (List.mem_singleton.mpr rfl)).trans h, Paired.mapP p fun _ _ q => i.mono (frz_le f) q⟩
theorem Lc.lendO {K : PySem.W.Frag} {B : Bs} {F H : Hp} {σ : L2.St} {k : Nat} {o : Own} {x : α} (L : Lc K B F H σ Γ) (hk : Γ[k]? = some (.own o)) (hx : Froz o x) :
    Lc K ⟨frz F H o.fp, H, fun _ => True⟩ (frz F H o.fp) H σ (Γ.set k (.val i x)) ∧ ∀ b ∈ o.fp, F b = none := by
  obtain ⟨v, ev, ok, f⟩ := slot_own L hk
  have f0 : ∀ b ∈ o.fp, F b = none := fun b hb => (f b hb).1
  refine ⟨⟨⟨Same.refl _, frz_same L.same, fun _ _ n => absurd trivial n, fun _ _ h _ => h, fun _ _ h => h⟩, by simp [L.len], fun q t hq => ?_, L.ap.put k rfl⟩, f0⟩
  rcases get_set_slot hq with ⟨e1, e2, rfl⟩ | ⟨e1, hq'⟩
  · subst e1
    rw [ev]
    exact ⟨v, rfl, hx L.same ok f0⟩
  · have old := L.ok q t hq'
    cases t with
    | no => trivial
    | val i x => obtain ⟨v, e2, r⟩ := old; exact ⟨v, e2, i.mono (frz_le f0) r⟩
    | own o2 =>
      obtain ⟨u, eu, ok2, f2⟩ := old
      exact ⟨u, eu, o2.stay (frz_le f0) (fun _ _ _ h => h) ok2, fun b hb => ⟨by rw [frz_out (fun hb2 => L.ap k q o o2 e1 hk hq' b hb2 hb)]; exact (f2 b hb).1, .inr trivial⟩⟩
theorem lend_back {F H F' H' : Hp} {ps : List Addr} (s : Same F H) (e : Ext (frz F H ps) H F' H') : Ext F H F H' := ⟨Same.refl F, s.trans e.hs, e.hh, fun _ _ h _ => h, fun _ z => z.elim⟩
theorem ev_lendO (k : Nat) {o : Own} {x : α} {y : β} [Flat β] (hx : Froz o x) (h : EV X (Γ.set k (.val i x)) e y) (hk : autoParam (Γ[k]? = some (.own o)) aRfl) : EV X Γ e y := fun B F H σ Q L q => by
  obtain ⟨L', fa⟩ := L.lendO hk hx
  exact h _ _ H σ Q L' fun v F' H' ex r => q v F H' (lend_back L.same ex) (Flat.fl r)
theorem et_lendO (k : Nat) {o : Own} {x : α} {y : Bool} (hx : Froz o x) (h : ET X (Γ.set k (.val i x)) e y) (hk : autoParam (Γ[k]? = some (.own o)) aRfl) : ET X Γ e y := fun B F H σ Q L q => by
  obtain ⟨L', fa⟩ := L.lendO hk hx
  exact h _ _ H σ Q L' fun F' H' ex => q F H' (lend_back L.same ex)
theorem en_lendO (k : Nat) {o : Own} {x : α} {ys : List β} [Flat β] (hx : Froz o x) (h : EN X (Γ.set k (.val i x)) e ys) (hk : autoParam (Γ[k]? = some (.own o)) aRfl) : EN X Γ e ys := fun B F H σ Q L q => by
  obtain ⟨L', fa⟩ := L.lendO hk hx
  exact h _ _ H σ Q L' fun a vs F' H' ex ha f2 h' pr => q a vs F H' (lend_back L.same ex) ha (L.same.free ha) h' (Paired.mapP pr fun _ _ z => Flat.fl z)
theorem ev_lend (k : Nat) {ad : Addr} {xs : List α} {y : β} [Flat β] (h : EV X (Γ.set k (.val repList xs)) e y) (hk : autoParam (Γ[k]? = some (.lst i ad xs)) aRfl) : EV X Γ e y := ev_lendO k frozL h hk
theorem en_lend (k : Nat) {ad : Addr} {xs : List α} {ys : List β} [Flat β] (h : EN X (Γ.set k (.val repList xs)) e ys) (hk : autoParam (Γ[k]? = some (.lst i ad xs)) aRfl) : EN X Γ e ys := en_lendO k frozL h hk
theorem ex_call {n : Str} {k : Nat} {ps : List Str} {S : Spec} {A : List Slot} {P : Ret → Prop} (G : Has X.prog X.w X.K X.mg X.base k n ps S) (hr : Room k X.A) (ha : EA X Γ (e :: es) A)
    (hS : ∀ P' R', (∀ r, P r → P' r) → S A P' R') (hg : autoParam (Gl X n) aRfl) (hd : autoParam ((n == ("__debug__" : Str)) = false) aDec)
    (he : autoParam (starEach (e :: es) X.env = (false, eval e X.env) :: starEach es X.env) aStar) (hpl : autoParam ((backTo pos (starEach es X.env)).any (·.1) = false) aPl) : EX X Γ (.Call (.Name n p) (e :: es) [] pos) P := fun B F H σ Q L q => by
  obtain ⟨f, fd, hm, hk, hb, G⟩ := G.ex
  refine WE.of (pe_call G hr hg hm hk hb .nil passL paW hd he hpl) (ha B F H σ _ L fun vs F1 H1 e1 r1 => ?_)
  rw [List.append_nil]
  exact ⟨F1, A, (L.step e1).same, r1.toO, r1.apart, hS _ _ fun r hr v F2 H2 e2 ok => q r v F2 H2 hr (e1.thenM e2 fun _ m => (r1.ma m).elim) (ok.imp fun b h => e1.hs.free (h.elim id fun m => (r1.ma m).elim))⟩
theorem ev_call {n : Str} {k : Nat} {ps : List Str} {S : Spec} {A : List Slot} {x : α} (G : Has X.prog X.w X.K X.mg X.base k n ps S) (hr : Room k X.A) (ha : EA X Γ (e :: es) A) (hS : ∀ P R, P (.val i x) → S A P R) (hg : autoParam (Gl X n) aRfl) (hd : autoParam ((n == ("__debug__" : Str)) = false) aDec)
    (he : autoParam (starEach (e :: es) X.env = (false, eval e X.env) :: starEach es X.env) aStar) (hpl : autoParam ((backTo pos (starEach es X.env)).any (·.1) = false) aPl) : EV X Γ (.Call (.Name n p) (e :: es) [] pos) x :=
  ev_of_ex (ex_call G hr ha (fun P' R' h => hS P' R' (h _ rfl)) hg hd he hpl)
theorem en_call {n : Str} {k : Nat} {ps : List Str} {S : Spec} {A : List Slot} {xs : List α} (G : Has X.prog X.w X.K X.mg X.base k n ps S) (hr : Room k X.A) (ha : EA X Γ (e :: es) A) (hS : ∀ P R, P (.new i xs) → S A P R) (hg : autoParam (Gl X n) aRfl) (hd : autoParam ((n == ("__debug__" : Str)) = false) aDec)
    (he : autoParam (starEach (e :: es) X.env = (false, eval e X.env) :: starEach es X.env) aStar) (hpl : autoParam ((backTo pos (starEach es X.env)).any (·.1) = false) aPl) : EN X Γ (.Call (.Name n p) (e :: es) [] pos) xs :=
  en_of_ex (ex_call G hr ha (fun P' R' h => hS P' R' (h _ rfl)) hg hd he hpl)
end
section
variable {P : Program} {w : World} {K : PySem.W.Frag} {mg : Str → Option Value} {base : Heap}
structure Df (K : PySem.W.Frag) (mg : Str → Option Value) (n : Str) (st : Stmt) (ps : List Str) : Prop where
  ex : ∃ f fd, Fun K n n st f fd ∧ Binds K fd ps [] ∧ mg n = some (.ref f)
theorem lc_start {F H : Hp} (s : Same F H) : ∀ {vs : List V} {A : List Slot} (r : VsOkO K F H vs A) (ap : Apart A) (n : Nat), Lc K ⟨F, H, MA A⟩ F H (vs.map some ++ List.replicate n none) (A ++ List.replicate n .no) := by
  intro vs A r ap n
  have key : ∀ {vs : List V} {A A0 : List Slot}, VsOkO K F H vs A → (∀ s ∈ A, s ∈ A0) → ∀ (k : Nat) t, (A ++ List.replicate n Slot.no)[k]? = some t → SlotOk K ⟨F, H, MA A0⟩ F H ((vs.map some ++ List.replicate n none)[k]?).join t := by
    intro vs A
    induction A generalizing vs with
    | nil =>
      intro A0 r _ k t h
      rw [List.nil_append, List.getElem?_replicate] at h
      split at h
      · cases h; exact trivial
      · cases h
    | cons a A ih =>
      intro A0 r hm k t h
      cases vs with
      | nil => cases a <;> exact r.elim
      | cons v vs =>
        cases a with
        | no => exact r.elim
        | own o =>
          cases k with
          | zero =>
            simp at h
            subst h
            exact ⟨v, rfl, r.1, fun b hb => ⟨r.2.1 b hb, .inr ⟨o, hm _ (List.mem_cons_self ..), hb⟩⟩⟩
          | succ k => exact ih r.2.2 (fun s hs => hm s (List.mem_cons_of_mem _ hs)) k t (by simpa using h)
        | val i x =>
          cases k with
          | zero =>
            simp at h
            subst h
            exact ⟨v, rfl, r.1⟩
          | succ k => exact ih r.2 (fun s hs => hm s (List.mem_cons_of_mem _ hs)) k t (by simpa using h)
  have inA : ∀ {k : Nat} {o : Own}, (A ++ List.replicate n Slot.no)[k]? = some (.own o) → A[k]? = some (.own o) := fun {k o} h => by
    by_cases hk : k < A.length
    · rw [List.getElem?_append_left hk] at h; exact h
    · rw [List.getElem?_append_right (by omega), List.getElem?_replicate] at h
      split at h <;> cases h
  exact ⟨⟨Same.refl _, s, fun _ _ _ h => h, fun _ _ h _ => h, fun _ _ h => h⟩, by simp [r.len], fun k t h => key r (fun _ h => h) k t h, fun x y o1 o2 hxy h1 h2 => ap x y o1 o2 hxy (inA h1) (inA h2)⟩
theorem Has.of {n : Str} {st : Stmt} {N ps : List Str} {k : Nat} {S : Spec} (D : Df K mg n st ps) (sc : FnScope N ps (defScope st)) (len : ∀ A Q R, S A Q R → A.length = ps.length)
    (body : ∀ (f : Addr) (cdv : Value) (A : Around) (outer : List Env) (s : Shared) (H : Hp) (E : XK), Room k (A.deeper (envOfC n (defScope st) s.heap.objs.size f cdv)) → ∀ Γ Q R, S Γ Q R →
      ST (cxOf (L2.CX P w) P w K mg base N n (defScope st) f cdv A outer s H E).nox (defBody st) (Γ ++ List.replicate (N.length - ps.length) .no) (fin Q)) :
    Has P w K mg base (k + 1) n ps S := by
  obtain ⟨f, fd, F, hb, hm⟩ := D.ex
  refine ⟨f, fd, hm, F.kp, hb, F.okX sc (fun vs H Q E ⟨F0, A, s, r, ap, h⟩ => ?_) (fun cdv A outer s H vs Q E hr h => ?_)⟩
  · rw [r.len]; exact len _ _ _ h
  · obtain ⟨F0, A0, sm, r, ap, h⟩ := h
    refine ⟨_, psW.nox, ?_⟩
    have hl := len _ _ _ h
    have L0 := lc_start (K := K) sm r ap (N.length - ps.length)
    have L1 : Lc K ⟨F0, H, MA A0⟩ F0 H (L2.start N vs) (A0 ++ List.replicate (N.length - ps.length) .no) := by
      unfold L2.start
      rw [show vs.length = ps.length from r.len.trans hl]
      exact L0
    refine body f cdv A outer s H E hr A0 _ _ h ⟨F0, H, MA A0⟩ F0 H _ _ L1 ⟨fun F' H' σ' Γ' _ hq L => ?_, fun r v F' H' hq ex ok => hq v F' H' ex ok, fun _ _ _ _ _ z => z.elim, fun _ _ _ _ _ z => z.elim, fun _ _ _ _ _ _ _ _ z => z.elim⟩
    exact hq .non F' H' L.ext rfl
end
end Tw
namespace Tw
open PySem PySem.Spec PyProof.Rows L2 TL
class Dat (α : Type) [i : Rep α] [DecidableEq α] where
  en : α → PyData
  ok : α → Prop
  dep : Nat
  dp : ∀ {K F v x}, i.rp K F v x → Dp K F v (en x)
  lay : ∀ {x}, ok x → (en x).canLay0 = true
  deep : ∀ x, (en x).depth ≤ dep
  eqv : ∀ x y, PyData.eqv (en x) (en y) = decide (x = y)
noncomputable instance : Dat Int := ⟨.int, fun _ => True, 0, fun {_ _ v x} h => by obtain rfl : v = .int x := h; exact .int _, fun _ => by rw [PyData.canLay0], fun _ => by simp [PyData.depth], fun x y => by simp [PyData.eqv, Bool.beq_eq_decide_eq]⟩
noncomputable instance : Dat Bool := ⟨.bool, fun _ => True, 0, fun {_ _ v x} h => by obtain rfl : v = .bl x := h; exact .bl _, fun _ => by rw [PyData.canLay0], fun _ => by simp [PyData.depth], fun x y => by simp [PyData.eqv, Bool.beq_eq_decide_eq]⟩
noncomputable def TxOk (x : Tx) : Prop := ∀ c ∈ x, c < 1114112
noncomputable instance : Dat (List Nat) := ⟨fun x => .str (sx x), TxOk, 0, fun {_ _ v x} h => by obtain rfl : v = .str (sx x) := h; exact .str _, fun {x} h => by
    rw [PyData.canLay0]
    show (sx x).cps.all (· < 0x110000) = true
    rw [Array.all_eq_true']
    intro c hc
    exact decide_eq_true (h c (by simpa [sx] using hc)), fun _ => by simp [PyData.depth], fun x y => by
    rw [PyData.eqv, Bool.beq_eq_decide_eq]
    by_cases h : x = y
    · subst h; rw [decide_eq_true rfl, decide_eq_true rfl]
    · rw [decide_eq_false h, decide_eq_false fun z => h (sx_inj z)]⟩
section
variable {α β : Type} [i : Rep α] [DecidableEq α] [d : Dat α] [j : Rep β] [DecidableEq β] [f : Dat β]
theorem dpAll {K : PySem.W.Frag} {F : Hp} : ∀ {vs : List V} {xs : List α}, Paired (fun u x => i.rp K F u x) vs xs → DpAll K F vs (xs.map d.en)
  | _, _, .nil => .nil
  | _, _, .cons r t => .cons (d.dp r) (dpAll t)
theorem layAll : ∀ {xs : List α}, (∀ x ∈ xs, d.ok x) → PyData.canLayAll0 (xs.map d.en) = true
  | [], _ => by rw [List.map_nil, PyData.canLayAll0]
  | x :: xs, h => by
    rw [List.map_cons, PyData.canLayAll0, d.lay (h x (List.mem_cons_self ..)), layAll fun y hy => h y (List.mem_cons_of_mem _ hy)]
    rfl
theorem deepAll : ∀ xs : List α, PyData.depthAll (xs.map d.en) ≤ d.dep
  | [] => by rw [List.map_nil, PyData.depthAll]; exact Nat.zero_le _
  | x :: xs => by rw [List.map_cons, PyData.depthAll]; exact Nat.max_le.mpr ⟨d.deep x, deepAll xs⟩
theorem eqvAll : ∀ xs ys : List α, PyData.eqvAll (xs.map d.en) (ys.map d.en) = decide (xs = ys)
  | [], [] => by rw [List.map_nil, PyData.eqvAll]; rfl
  | x :: xs, [] => by rw [List.map_cons, List.map_nil, PyData.eqvAll]; rfl
  | [], y :: ys => by rw [List.map_cons, List.map_nil, PyData.eqvAll]; rfl
  | x :: xs, y :: ys => by
    rw [List.map_cons, List.map_cons, PyData.eqvAll, d.eqv, eqvAll xs ys, ← Bool.decide_and]
    exact decide_eq_decide.mpr (by simp)
noncomputable instance : Dat (List α) := ⟨fun xs => .list (xs.map d.en), fun xs => ∀ x ∈ xs, d.ok x, d.dep + 1, fun {K F v xs} ⟨a, vs, e, h, pr⟩ => by subst e; exact .lst (.inl (.inl h)) (dpAll pr), fun h => by rw [PyData.canLay0]; exact layAll h,
  fun xs => by rw [PyData.depth]; exact Nat.succ_le_succ (deepAll xs), fun xs ys => by rw [PyData.eqv]; exact eqvAll xs ys⟩
noncomputable instance : DecidableEq (Tup α) := fun x y => decidable_of_iff (x.l = y.l) (by cases x; cases y; simp)
noncomputable instance : Dat (Tup α) := ⟨fun xs => .tuple (xs.l.map d.en), fun xs => ∀ x ∈ xs.l, d.ok x, d.dep + 1, fun {K F v xs} ⟨a, vs, e, h, pr⟩ => by subst e; exact .tup (.inl (.inl h)) (dpAll pr), fun h => by rw [PyData.canLay0]; exact layAll h,
  fun xs => by rw [PyData.depth]; exact Nat.succ_le_succ (deepAll xs.l), fun xs ys => by
    rw [PyData.eqv, eqvAll]
    exact decide_eq_decide.mpr (by cases xs; cases ys; simp)⟩
noncomputable instance : Dat (α × β) := ⟨fun x => .tuple [d.en x.1, f.en x.2], fun x => d.ok x.1 ∧ f.ok x.2, max d.dep f.dep + 1, fun {K F v x} ⟨a, u, w, e, h, r1, r2⟩ => by subst e; exact .tup (.inl (.inl h)) (.cons (d.dp r1) (.cons (f.dp r2) .nil)),
  fun {x} h => by rw [PyData.canLay0, PyData.canLayAll0, PyData.canLayAll0, PyData.canLayAll0, d.lay h.1, f.lay h.2]; rfl,
  fun x => by
    rw [PyData.depth, PyData.depthAll, PyData.depthAll, PyData.depthAll]
    have h1 := d.deep x.1
    have h2 := f.deep x.2
    omega, fun x y => by
    rw [PyData.eqv, PyData.eqvAll, PyData.eqvAll, PyData.eqvAll, d.eqv, f.eqv, Bool.and_true, ← Bool.decide_and]
    exact decide_eq_decide.mpr (by cases x; cases y; simp)⟩
end
class Ty (α : Type) [i : Rep α] where
  ty : String
  is : ∀ {K F H v} {x : α}, Same F H → i.rp K F v x → TyX K H v (.type ty)
noncomputable instance : Ty Int := ⟨"int", fun {_ _ _ v x} _ h => by obtain rfl : v = .int x := h; exact .base (.int _)⟩
noncomputable instance : Ty Bool := ⟨"bool", fun {_ _ _ v x} _ h => by obtain rfl : v = .bl x := h; exact .base (.bl _)⟩
noncomputable instance : Ty (List Nat) := ⟨"str", fun {_ _ _ v x} _ h => by obtain rfl : v = .str (sx x) := h; exact .base (.str _)⟩
noncomputable instance {α : Type} [i : Rep α] : Ty (List α) := ⟨"list", fun {_ _ _ v x} s h => by obtain ⟨a, vs, rfl, h, _⟩ := h; exact .base (.lst (s _ _ h))⟩
noncomputable instance {α : Type} [i : Rep α] : Ty (Tup α) := ⟨"tuple", fun {_ _ _ v x} s h => by obtain ⟨a, vs, rfl, h, _⟩ := h; exact .base (.tup (s _ _ h))⟩
noncomputable instance {α β : Type} [i : Rep α] [j : Rep β] : Ty (α × β) := ⟨"tuple", fun {_ _ _ v x} s h => by obtain ⟨a, u, w, rfl, h, _⟩ := h; exact .base (.tup (s _ _ h))⟩
section
variable {X : Cx} {Γ : List Slot} {α β γ : Type} {i : Rep α} {j : Rep β} {l : Rep γ} {pos p p2 : Pos} {e a b c elt tg it : Expr} {es : List Expr} {E : SE} {rest body : List Stmt}
noncomputable def Le (Γ Γ' : List Slot) : Prop := Γ.length = Γ'.length ∧ ∀ (k : Nat) s, Γ'[k]? = some s → s = .no ∨ Γ[k]? = some s
theorem Le.refl : Le Γ Γ := ⟨rfl, fun _ _ h => .inr h⟩
theorem le_nil : Le [] [] := ⟨rfl, fun _ _ h => .inr h⟩
theorem le_cons {s : Slot} {Γ Γ' : List Slot} (h : Le Γ Γ') : Le (s :: Γ) (s :: Γ') := ⟨by simp [h.1], fun k t e => by
  cases k with
  | zero => exact .inr e
  | succ k => exact h.2 k t (by simpa using e)⟩
theorem le_no {s : Slot} {Γ Γ' : List Slot} (h : Le Γ Γ') : Le (s :: Γ) (.no :: Γ') := ⟨by simp [h.1], fun k t e => by
  cases k with
  | zero => simp at e; exact .inl e.symm
  | succ k => exact h.2 k t (by simpa using e)⟩
theorem Le.trans {Γ Γ' Γ'' : List Slot} (h : Le Γ Γ') (h2 : Le Γ' Γ'') : Le Γ Γ'' := ⟨h.1.trans h2.1, fun k s e => by
  rcases h2.2 k s e with z | z
  · exact .inl z
  · exact h.2 k s z⟩
theorem Lc.le {K : PySem.W.Frag} {B : Bs} {F H : Hp} {σ : L2.St} {Γ Γ' : List Slot} (L : Lc K B F H σ Γ) (h : Le Γ Γ') : Lc K B F H σ Γ' :=
  ⟨L.ext, L.len.trans h.1, fun k s e => by
    rcases h.2 k s e with rfl | e
    · trivial
    · exact L.ok k s e, fun x y o1 o2 hxy h1 h2 => by
    rcases h.2 x _ h1 with z | h1
    · cases z
    rcases h.2 y _ h2 with z | h2
    · cases z
    exact L.ap x y o1 o2 hxy h1 h2⟩
theorem st_le {sts : List Stmt} {Γ Γ' : List Slot} (h : Le Γ Γ') (hs : ST X sts Γ' E) : ST X sts Γ E := fun B F H σ D L ed => hs B F H σ D (L.le h) ed
end
noncomputable def lawS : Spec := fun A P _ => ∃ s : Scr, A = [vl s] ∧ s.l.length ≤ 63 ∧ P (rv true)
theorem hCX0 (P : Program) (w : World) (H : Hp) (s : Shared) (e : Value) (s' : Shared) : L2.CX P w [] H s (fun _ _ _ => False) e s' → False := fun ⟨_, _, _, _, _, _, _, _, _, _, _, _, z⟩ => z
theorem law_sp (K : PySem.W.Frag) (H : Hp) (a : Addr) (ns : List Int) (hl : ns.length ≤ 63) (hS : SqL K H a (ns.map V.int)) : spOf K lawS [.ref a] H (fun v _ => v = .bl true) fun _ _ _ => False := by
  refine ⟨H, [vl (Scr.mk ns)], Same.refl H, ⟨⟨a, rfl, hS⟩, trivial⟩, fun i j o1 o2 _ h1 _ => ?_, ⟨ns⟩, rfl, hl, fun v F' H' _ ok => ok⟩
  have := List.mem_of_getElem? h1
  rw [List.mem_singleton] at this
  cases this
section
variable {P : Program} {w : World} {K : PySem.W.Frag} {mg : Str → Option Value} {base : Heap}
noncomputable def BodyOk (P : Program) (w : World) (K : PySem.W.Frag) (mg : Str → Option Value) (base : Heap) (k : Nat) (n : Str) (st : Stmt) (N ps : List Str) (S : Spec) : Prop :=
  ∀ (f : Addr) (cdv : Value) (A : Around) (outer : List Env) (s : Shared) (H : Hp) (E : XK), Room k (A.deeper (envOfC n (defScope st) s.heap.objs.size f cdv)) → ∀ Γ Q R, S Γ Q R →
      ST (cxOf (L2.CX P w) P w K mg base N n (defScope st) f cdv A outer s H E).nox (defBody st) (Γ ++ List.replicate (N.length - ps.length) .no) (fin Q)
theorem law_fn {f : Addr} {fd : FuncData} {st : Stmt} {N : List Str} {x : Str} {k : Nat} (F : Fun K "law" "law" st f fd) (sc : FnScope N [x] (defScope st)) (body : BodyOk P w K mg base k "law" st N [x] lawS) :
    FnOk P w K mg base (L2.CX P w) (k + 1) f fd [x] (spOf K lawS) := by
  refine F.okX sc (fun vs H Q E ⟨F0, A, s, r, ap, h⟩ => ?_) (fun cdv A outer s H vs Q E hr h => ?_)
  · obtain ⟨s, rfl, _⟩ := h
    rw [r.len]; rfl
  · obtain ⟨F0, A0, sm, r, ap, h⟩ := h
    refine ⟨_, psW.nox, ?_⟩
    have hl : A0.length = 1 := by obtain ⟨s, rfl, _⟩ := h; rfl
    have L0 := lc_start (K := K) sm r ap (N.length - 1)
    have L1 : Lc K ⟨F0, H, MA A0⟩ F0 H (L2.start N vs) (A0 ++ List.replicate (N.length - 1) .no) := by
      unfold L2.start
      rw [show vs.length = 1 from r.len.trans hl]
      exact L0
    refine body f cdv A outer s H E hr A0 _ _ h ⟨F0, H, MA A0⟩ F0 H _ _ L1 ⟨fun F' H' σ' Γ' _ hq L => ?_, fun r v F' H' hq ex ok => hq v F' H' ex ok, fun _ _ _ _ _ z => z.elim, fun _ _ _ _ _ z => z.elim, fun _ _ _ _ _ _ _ _ z => z.elim⟩
    exact hq .non F' H' L.ext rfl
end
theorem ev_gintE {X : Cx} {Γ : List Slot} {pos : Pos} {n : Str} {z : Int} (hm : ∃ t, X.mg n = some (.int z t)) (hg : autoParam (Gl X n) aRfl) (hd : autoParam ((n == ("__debug__" : Str)) = false) aDec) : EV X Γ (.Name n pos) z := by
  obtain ⟨t, hm⟩ := hm
  exact ev_gint hm hg hd
theorem ev_gstrE {X : Cx} {Γ : List Slot} {pos : Pos} {n : Str} {s : String} (hm : ∃ t, X.mg n = some (.str (Str.ofString s) t)) (hg : autoParam (Gl X n) aRfl) (hd : autoParam ((n == ("__debug__" : Str)) = false) aDec) : EV X Γ (.Name n pos) (tx s) := by
  obtain ⟨t, hm⟩ := hm
  exact ev_gstr s hm hg hd
theorem pgn {X : Cx} (k : Nat) {n : Str} {pos : Pos} (hN : X.N.Nodup) (hi : autoParam (X.N[k]? = some n) aRfl) (hx : autoParam (L2.Loc X.env.scope n) aLoc)
    (hf : autoParam (X.fn n = true ∨ X.env.scope.names.lookup n = some .local) Tw.aFn) : PG X (.Name n pos) (gName k) := pg_name hN hi hx hf
theorem Le.set {Γ Γ' : List Slot} (h : Le Γ Γ') (k : Nat) (s : Slot) : Le (Γ.set k s) (Γ'.set k s) := ⟨by simp [h.1], fun q t e => by
  rcases get_set_slot e with ⟨e1, e2, rfl⟩ | ⟨e1, e⟩
  · refine .inr ?_
    subst e1
    rw [List.getElem?_set_self (by rw [h.1]; exact e2)]
  · rcases h.2 q t e with z | z
    · exact .inl z
    · exact .inr (by rw [List.getElem?_set_ne e1]; exact z)⟩
theorem en_nil {X : Cx} {Γ : List Slot} {pos : Pos} (α : Type) [i : Rep α] : EN X Γ (.List [] pos) ([] : List α) := en_lst es_nil
theorem rng_get0 {n k : Nat} {x : Int} (h : (rng 0 n)[k]? = some x) : k < n ∧ x = (k : Int) := by
  obtain ⟨h1, h2⟩ := rng_get h
  exact ⟨h1, by rw [h2]; omega⟩
theorem rng_mem {lo : Int} {n : Nat} {x : Int} (h : x ∈ rng lo n) : ∃ k : Nat, k < n ∧ x = lo + k := by
  unfold rng at h
  obtain ⟨k, hk, rfl⟩ := List.mem_map.mp h
  exact ⟨k, List.mem_range.mp hk, rfl⟩
theorem joinOnes {A : Type} (xs : List A) (f : A → Nat) : joinL [] (xs.map fun x => ([f x] : Tx)) = xs.map f := by
  rw [show (fun x => ([f x] : Tx)) = (fun c => ([c] : Tx)) ∘ f from rfl, ← List.map_map, joinL_one]
theorem take_snoc {A : Type} {xs : List A} {k : Nat} {x : A} (h : xs[k]? = some x) : xs.take (k + 1) = xs.take k ++ [x] := by rw [List.take_add_one, h]; rfl
theorem lt_line {n : Nat} (h : n ≤ 1000) : n < sizeLine := Nat.lt_of_le_of_lt h (by decide)
theorem sum_ones {A : Type} (xs : List A) (f : A → Nat) : ((xs.map fun x => ([f x] : Tx)).map (·.length)).sum = xs.length := by
  rw [List.map_map, show (List.length ∘ fun x => ([f x] : Tx)) = fun _ => 1 from rfl, List.map_const', List.sum_replicate_nat]; omega
end Tw
namespace Tw
open PySem PySem.Spec PyProof.Rows L2 TL
section
variable {X : Cx} {Γ : List Slot} {α β γ δ : Type} {i : Rep α} {j : Rep β} {l : Rep γ} {m : Rep δ} {pos p p2 : Pos} {e a b c d elt tg it : Expr} {es : List Expr} {E : SE} {rest body : List Stmt}
theorem ev_all {bs : List Bool} (hm : X.mg "all" = none) (h : EV X Γ e bs) (hc : autoParam (X.calm = true) aRfl) (hg : autoParam (Gl X "all") aRfl) (hs : autoParam (starEach [e] X.env = (false, eval e X.env) :: starEach [] X.env) aStar) (hpl : autoParam ((backTo pos (starEach [] X.env)).any (·.1) = false) aPl) :
    EV X Γ (.Call (.Name "all" p) [e] [] pos) (bs.all id) :=
  ev_callB1 (cr_all hc) hm (by decide +kernel) h (fun F H v Q s r q => by
    obtain ⟨ad, vs, rfl, ha, pr⟩ := r
    exact ⟨ad, bs, rfl, by rw [← Rps.bls pr]; exact sq_of s ha, q _ F H (Ext.refl s) rfl⟩) hg (by decide) (by decide) hs hpl
theorem ev_sum {ns : List Int} (hm : X.mg "sum" = none) (h : EV X Γ e ns) (hc : autoParam (X.calm = true) aRfl) (hg : autoParam (Gl X "sum") aRfl) (hs : autoParam (starEach [e] X.env = (false, eval e X.env) :: starEach [] X.env) aStar) (hpl : autoParam ((backTo pos (starEach [] X.env)).any (·.1) = false) aPl) :
    EV X Γ (.Call (.Name "sum" p) [e] [] pos) ns.sum :=
  ev_callB1 (cr_sum hc) hm (by decide +kernel) h (fun F H v Q s r q => by
    obtain ⟨ad, vs, rfl, ha, pr⟩ := r
    exact ⟨ad, ns, rfl, by rw [← Rps.ints pr]; exact sq_of s ha, q _ F H (Ext.refl s) rfl⟩) hg (by decide) (by decide) hs hpl
theorem pg2 (k1 k2 : Nat) {n1 n2 : Str} {q1 q2 tp : Pos} {kk} (h1 : PG X (.Name n1 q1) (gName k1)) (h2 : PG X (.Name n2 q2) (gName k2)) (hc : autoParam (X.calm = true) aRfl)
    (a3 : autoParam ((assignEach [.Name n1 q1, .Name n2 q2] X.env).map (·.2) = assign (.Name n1 q1) X.env :: (assignEach [.Name n2 q2] X.env).map (·.2)) aRfl)
    (a4 : autoParam ((assignEach [.Name n2 q2] X.env).map (·.2) = assign (.Name n2 q2) X.env :: (assignEach [] X.env).map (·.2)) aRfl)
    (hn : autoParam ((assignEach [.Name n1 q1, .Name n2 q2] X.env).length = 2) aRfl) (hst : autoParam ((assignEach [.Name n1 q1, .Name n2 q2] X.env).findIdx? (·.1) = none) aRfl) :
    PG X (.Tuple [.Name n1 q1, .Name n2 q2] kk tp) (gTup X.K 2 (gCons (gName k1) (gCons (gName k2) gNil))) := pg_tup hc (pgs_cons h1 (pgs_cons h2 pgs_nil a4) a3) hn hst
structure Thing where
  u : Unit
noncomputable instance repThing : Rep Thing := ⟨fun _ _ _ _ => True, fun _ h => h⟩
end
end Tw
namespace Tw
open PySem PySem.Spec PyProof.Rows L2 TL
structure XCls (K : PySem.W.Frag) (n : Str) (C : Addr) : Prop where
  ns : PySem.W.nsIn K mainGlobals n = some (some (.ref C))
  kp : PySem.W.keepIn K (.ref C) = true
  ty : PySem.W.typeIn K (.ref C) = some (.type "type")
  is : ExcC K C
noncomputable def XC (K : PySem.W.Frag) (mg : Str → Option Value) (n : Str) : Prop := ∃ C, XCls K n C ∧ mg n = some (.ref C)
noncomputable def XPlain (K : PySem.W.Frag) (n : Str) : Prop := ∀ C, PySem.W.nsIn K mainGlobals n = some (some (.ref C)) → PySem.W.excIn K C [.type "ValueError", .type "Exception", .type "BaseException", .type "object"] "ValueError.__new__" = true
noncomputable def XSub (K : PySem.W.Frag) (n m : Str) (b : Bool) : Prop := ∀ C D, PySem.W.nsIn K mainGlobals n = some (some (.ref C)) → PySem.W.nsIn K mainGlobals m = some (some (.ref D)) → PySem.W.exmOne K (.ref C) (.ref D) = some b ∧ PySem.W.kitOne K (.ref C) (.ref D) = some b
noncomputable def XSubT (K : PySem.W.Frag) (n : Str) (T : String) (b : Bool) : Prop := ∀ C, PySem.W.nsIn K mainGlobals n = some (some (.ref C)) → PySem.W.kitOne K (.ref C) (.type T) = some b
noncomputable def XNone (K : PySem.W.Frag) (t : String) (m : Str) : Prop := ∀ D, PySem.W.nsIn K mainGlobals m = some (some (.ref D)) → PySem.W.kitOne K (.type t) (.ref D) = some false
theorem ns_one {K : PySem.W.Frag} {n : Str} {C D : Addr} (h1 : PySem.W.nsIn K mainGlobals n = some (some (.ref C))) (h2 : PySem.W.nsIn K mainGlobals n = some (some (.ref D))) : D = C := by
  rw [h1] at h2
  cases h2
  rfl
theorem kitOf {K : PySem.W.Frag} {t : Value} {D : Addr} {b : Bool} (ht : PySem.W.typeIn K (.ref D) = some (.type "type")) (hd : PySem.W.hasDictIn K D = true) (h : PySem.W.subIn K t (.ref D) = some b) (hb : t = .ref D → b = true) : PySem.W.kitOne K t (.ref D) = some b := by
  unfold PySem.W.kitOne
  split
  · rename_i e
    rw [hb (beq_iff_eq.mp e)]
  · obtain ⟨cd, hc, _⟩ := PySem.W.any_some hd
    show (if ((PySem.W.clsIn K D).isSome && PySem.W.typeIn K (.ref D) == some (.type "type")) = true then PySem.W.subIn K t (.ref D) else none) = some b
    rw [if_pos (by rw [hc, ht]; rfl)]
    exact h
theorem XPlain.mk {K : PySem.W.Frag} {n : Str} {C : Addr} (a : PySem.W.nsIn K mainGlobals n = some (some (.ref C))) (h : PySem.W.excIn K C [.type "ValueError", .type "Exception", .type "BaseException", .type "object"] "ValueError.__new__" = true) : XPlain K n := fun D e => ns_one a e ▸ h
theorem XSub.mk {K : PySem.W.Frag} {n m : Str} {b : Bool} {C D : Addr} (a1 : PySem.W.nsIn K mainGlobals n = some (some (.ref C))) (a2 : PySem.W.nsIn K mainGlobals m = some (some (.ref D))) (ht : PySem.W.typeIn K (.ref D) = some (.type "type")) (hs : PySem.W.subIn K (.ref D) (.type "BaseException") = some true) (hd : PySem.W.hasDictIn K D = true)
    (h : PySem.W.subIn K (.ref C) (.ref D) = some b) (hb : C = D → b = true) : XSub K n m b := fun C' D' e1 e2 => by
  obtain rfl := ns_one a1 e1
  obtain rfl := ns_one a2 e2
  exact ⟨PySem.W.exm_ref hs hd ht h, kitOf ht hd h fun e => hb (Value.ref.inj e)⟩
theorem XSubT.mk {K : PySem.W.Frag} {n : Str} {T : String} {b : Bool} {C : Addr} (hm : PySem.W.kitMeta T = true) (a : PySem.W.nsIn K mainGlobals n = some (some (.ref C))) (h : PySem.W.subIn K (.ref C) (.type T) = some b) : XSubT K n T b := fun D e => by
  obtain rfl := ns_one a e
  show (if PySem.W.kitMeta T = true then PySem.W.subIn K (.ref D) (.type T) else none) = some b
  rw [if_pos hm]
  exact h
theorem XNone.mk {K : PySem.W.Frag} {t : String} {m : Str} {D : Addr} (a : PySem.W.nsIn K mainGlobals m = some (some (.ref D))) (ht : PySem.W.typeIn K (.ref D) = some (.type "type")) (hd : PySem.W.hasDictIn K D = true) (h : PySem.W.subIn K (.type t) (.ref D) = some false) : XNone K t m := fun D' e => by
  obtain rfl := ns_one a e
  exact kitOf ht hd h fun z => nomatch z
noncomputable def ErrO (cls : Value) (d : Option Addr) (a : Addr) : HO := .ext fun h => ∃ (oe : Obj) (vs : Array Value), h.get? a = some oe ∧ Zc cls d oe ∧ oe.data = .fields vs
theorem errO_ok {P : Program} {w : World} {H : Hp} {h : Heap} {a : Addr} {cls : Value} {d : Option Addr} {oe : Obj} {vs : Array Value} (e : h.get? a = some oe) (z : Zc cls d oe) (hd : oe.data = .fields vs) : ObjOk P w H h a (ErrO cls d a) :=
  ⟨⟨oe, vs, e, z, hd⟩, ⟨oe, e⟩, fun _ _ ⟨o, v, q, r⟩ k => ⟨o, v, k o q, r⟩⟩
structure Err where
  cls : Str
structure ErrW (α : Type) where
  cls : Str
  fld : Str
  why : α
noncomputable def ErrAt (K : PySem.W.Frag) (F : Hp) (v : V) (n : Str) (d : Option Addr) : Prop := ∃ a C, v = .ref a ∧ F a = some (ErrO (.ref C) d a) ∧ PySem.W.nsIn K mainGlobals n = some (some (.ref C))
noncomputable instance repErr : Rep Err := ⟨fun K F v x => ErrAt K F v x.cls none, fun s ⟨a, C, e, h, n⟩ => ⟨a, C, e, s _ _ h, n⟩⟩
noncomputable instance repErrW {α : Type} [i : Rep α] : Rep (ErrW α) := ⟨fun K F v x => ∃ dx w, ErrAt K F v x.cls (some dx) ∧ F dx = some (.xd [(x.fld, w)]) ∧ i.rp K F w x.why,
  fun s ⟨dx, w, ⟨a, C, e, h, n⟩, h2, r⟩ => ⟨dx, w, ⟨a, C, e, s _ _ h, n⟩, s _ _ h2, i.mono s r⟩⟩
noncomputable def Exn.slot (x : Exn) : Slot := match x.why with
  | .no => .val repErr ⟨x.cls⟩
  | .val i y => .val (@repErrW _ i) ⟨x.cls, x.fld, y⟩
  | .own _ => .no
class IsErr (α : Type) [i : Rep α] where
  cls : α → Str
  at_ : ∀ {K F v x}, i.rp K F v x → ∃ d, ErrAt K F v (cls x) d ∧ ∀ dx, d = some dx → ∃ fs, F dx = some (.xd fs)
noncomputable instance : IsErr Err := ⟨fun x => x.cls, fun h => ⟨none, h, fun _ z => nomatch z⟩⟩
noncomputable instance {α : Type} [i : Rep α] : IsErr (ErrW α) := ⟨fun x => x.cls, fun ⟨dx, w, h, h2, _⟩ => ⟨some dx, h, fun d e => by cases e; exact ⟨_, h2⟩⟩⟩
section
open PySem.W
variable {prog : Program} {w : World} {A : Around} {E : Value → Shared → Prop} {s : Shared} {K : Frag} {x D : Addr} {ox : Obj} {od : Option Obj}
theorem findObj_dataD {C : Addr} {name : Str} {a g : Value} (hc : (clsIn K C).isSome = true) (ha : findIn K (.ref C) name = some (some a)) (hg : specialIn K a "__get__" = some (some g)) (ht : takesIn K a = some true) : findObj K C od name = some (.bind g a) := by
  obtain ⟨cd, hc⟩ := Option.isSome_iff_exists.mp hc
  unfold findObj
  rw [hc, Option.bind_some, ha, Option.bind_some]
  simp [hg, ht]
theorem kin_classD {Q : Option Value → Shared → Prop} (T : L2.ExcC K D) (X : K.In s.heap) (I : InstAt s.heap x ox D od) (h : Q (some (.ref D)) { s with toks := s.toks + 1 }) : wpAny (model prog w) A (getAttr? (.ref x) "__class__") Q E s := by
  have hf : findObj K D od "__class__" = some (.bind (.builtin "getset_descriptor.__get__") (.builtin "object.__class__")) := findObj_dataD (by obtain ⟨cd, hc, _⟩ := any_some T.hd; rw [hc]; rfl) T.ha T.hn T.ht
  obtain ⟨hp, g, d, t, os⟩ := s
  have L0 := I.type (M := model prog w)
  have L1 := looks_findIn (M := model prog w) X T.hg
  have L2 := looks_findIn (M := model prog w) X T.hk
  have L3 := looks_find (M := model prog w) X I hf
  have sub : Looks (model prog w) hp (isInstance (.ref x) (.type "BaseException")) true := L0.andThen (looks_subIn X T.hs)
  have hx0 : (false && onTheHeap (Value.builtin "BaseException.__getattribute__")) = false := rfl
  have hx2 : (Value.builtin "BaseException.__getattribute__" == Value.builtin "object.__getattribute__") = false := by decide +kernel
  have hx1 : (onTheHeap (Value.ref D) && Value.builtin "BaseException.__getattribute__" == Value.builtin "object.__getattribute__") = false := by rw [hx2]; rfl
  unfold getAttr? getAttrBy? getAttrBy
  refine wpAny_bind (wpAny_mkText (wpAny_bind (wpAny_attempt (wpAny_holding (wpAny_bind (L0.at (wpAny_bind (L1.at ?_))))))))
  show wpAny _ _ (if (onTheHeap (Value.ref D) && Value.builtin "BaseException.__getattribute__" == Value.builtin "object.__getattribute__") = true then _ else _) _ _ _
  rw [hx1, if_neg Bool.false_ne_true]
  unfold getAttrByItsOwn hookBefore
  refine wpAny_bind ?_
  rw [if_pos (show onTheHeap (Value.ref D) = true from rfl)]
  refine L2.at ?_
  refine wpAny_bind (wpAny_attempt (wpAny_holding ?_))
  unfold callGetattribute
  rw [hx0, if_neg Bool.false_ne_true]
  unfold boundAndCalled
  rw [PySem.F.excAttr_ValueError.ga.bind (.ref x)]
  refine wpAny_bind (wpAny_pure ?_)
  show wpAny _ _ (call (.builtin "BaseException.__getattribute__") [.ref x, .str "__class__" t]) _ _ _
  refine wpAny_call (codeAny_call_builtin PySem.F.excAttr_ValueError.ga.plain PySem.F.entry_bexc_ga ?_)
  refine @check_slot (model prog w) _ _ ⟨hp, g, d, t + 1, os⟩ "BaseException.__getattribute__" "BaseException" "__getattribute__" (.ref x) [.str "__class__" t] [] _ (by decide +kernel) (by decide +kernel) sub (PySem.F.args_bexc_ga (.ref x) (.str "__class__" t)) ?_
  unfold Builtin.«object.__getattribute__»
  refine wpAny_bind (wpAny_of_eq (a := ((Value.ref x : Value), [Value.str "__class__" t])) (by first | rfl | (simp only [slotArgs]; rfl)) ?_)
  refine wpAny_bind (wpAny_pure (wpAny_bind (L0.at (wpAny_bind (L3.at ?_)))))
  show wpAny _ _ (holding [Value.builtin "object.__class__"] (call (.builtin "getset_descriptor.__get__") [.builtin "object.__class__", .ref x, .ref D]) >>= ret) _ _ _
  refine wpAny_bind (wpAny_holding (wpAny_call (class_get (s := ⟨hp, g, d, t + 1, os⟩) (ox := ox) (od := od) X I T.hm ?_)))
  refine wpAny_pure ?_
  show wpAny _ _ (handedOut (.ref D)) _ _ _
  rw [handedOut_of (v := .ref D) rfl]
  first
    | exact wpAny_pure (wpAny_pure h)
    | exact wpAny_pure h
    | exact wpAny_pure (wpAny_bind (wpAny_pure (wpAny_pure h)))
theorem kitx_err (T : L2.ExcC K D) : KitX K (.ref x) (.ref D) (fun h => ∃ ox od, InstAt h x ox D od) where
  ty := fun _ _ _ ⟨_, _, I⟩ => I.type
  it := fun _ _ X _ => by
    obtain ⟨cdD, hcD, _⟩ := any_some T.hd
    unfold clsIn at hcD
    split at hcD
    · rename_i c' d' cd' sl' ho
      intro A' Q' E' s' k q
      unfold isType loadHead
      exact wpAny_bind (wpAny_loadPart (k _ _ (X _ _ ho)) (wpAny_pure q))
    · cases hcD
  ne := fun h tp dd its n sl X htp => by
    obtain ⟨cdD, hcD, _⟩ := any_some T.hd
    refine Bool.eq_false_iff.mpr fun q => ?_
    have e : D = tp := Value.ref.inj (beq_iff_eq.mp q)
    subst e
    unfold clsIn at hcD
    split at hcD
    · rename_i c' d' cd' sl' ho
      have z := (X _ _ ho).symm.trans htp
      cases z
    · cases hcD
  ca := fun X ⟨_, _, I⟩ k => kin_classD T X I k
end
section
variable {X : Cx} {pins : List (Addr × Obj)} {σ : L2.St} {H : Hp} {s : Shared}
theorem err_inst {a C : Addr} {d : Option Addr} (I : Inv X pins σ H s) (ha : H a = some (ErrO (.ref C) d a)) (hd : ∀ dx, d = some dx → ∃ fs, H dx = some (.xd fs)) : ∃ ox od, PySem.W.InstAt s.heap a ox C od := by
  have x : ObjOk X.prog X.w H s.heap a (ErrO (.ref C) d a) := I.hok a _ ha
  obtain ⟨⟨oe, vs, hget, hz, hv⟩, _⟩ := x
  have no : PySem.W.notCls oe = true := by unfold PySem.W.notCls; rw [hv] <;> rfl
  cases d with
  | none => exact ⟨oe, none, hget, hz.1, no, by rw [hz.2]; trivial⟩
  | some dx =>
    obtain ⟨fs, ed⟩ := hd dx rfl
    have hx : ObjOk X.prog X.w H s.heap dx (.xd fs) := I.hok dx _ ed
    obtain ⟨mA, hns, hr⟩ := hx
    obtain ⟨od, ho, hl⟩ := lookIn_ns hns
    exact ⟨oe, some od, hget, hz.1, no, by rw [hz.2]; exact ho⟩
noncomputable def rIsErr (K : PySem.W.Frag) : List V → Hp → VK → Prop := fun xs H Q => ∃ (a C : Addr) (d : Option Addr) (c : V) (u : Value) (b : Bool), xs = [.ref a, c] ∧ H a = some (ErrO (.ref C) d a) ∧ (∀ dx, d = some dx → ∃ fs, H dx = some (.xd fs)) ∧ ExcC K C ∧ ClsV c u ∧ PySem.W.kitOne K (.ref C) u = some b ∧ Q (.bl b) H
theorem call_isErr : CallR X (.builtin "isinstance") (rIsErr X.K) := by
  intro pins s σ H xs us Q I r h
  obtain ⟨a, C, d, c, u, b, rfl, ha, hd, T, k, e, q⟩ := h
  obtain ⟨u1, u2, rfl, r1, r2⟩ := vals2 r
  have e2 := k.eq r2
  subst e2
  obtain rfl : u1 = Value.ref a := r1
  exact PySem.W.kia_one (kitx_err T) I.kIn (err_inst I ha hd) e (fun z => nomatch z) fun tk => ⟨.bl b, H, I.tok tk, rfl, q⟩
end
end Tw
namespace Tw
open PySem PySem.Spec PyProof.Rows L2 TL
section
variable {X : Cx} {Γ : List Slot} {α β γ : Type} {i : Rep α} {j : Rep β} {l : Rep γ} {pos p p2 : Pos} {e a b c elt tg it : Expr} {es : List Expr} {E : SE} {rest body : List Stmt}
theorem ev_isiE {α : Type} [i : Rep α] [t : IsErr α] {x : α} {n c : Str} {k : Bool} (hm : X.mg "isinstance" = none) (hx : XC X.K X.mg n) (hc : XC X.K X.mg c) (hk : XSub X.K n c k) (h : EV X Γ e x) (hn : autoParam (t.cls x = n) aRfl) (hg : autoParam (Gl X "isinstance") aRfl) (hgT : autoParam (Gl X c) aRfl) (hdT : autoParam ((c == ("__debug__" : Str)) = false) aDec)
    (hs : autoParam (starEach [e, .Name c p2] X.env = (false, eval e X.env) :: starEach [.Name c p2] X.env) aStar) (hs2 : autoParam (starEach [.Name c p2] X.env = (false, eval (.Name c p2) X.env) :: starEach [] X.env) aStar) (hpl : autoParam ((backTo pos (starEach [.Name c p2] X.env)).any (·.1) = false) aPl) :
    EV X Γ (.Call (.Name "isinstance" p) [e, .Name c p2] [] pos) k := fun B F H σ Q L q => by
  obtain ⟨D, xD, gD⟩ := hc
  obtain ⟨C, xC, gC⟩ := hx
  refine WE.of (pe_callB call_isErr hg hm (by decide +kernel) (pa_cons peW (pa_cons (pe_glob (v := .ref D) hgT gD rfl hdT) pa_nil hs2) hs) (by decide) (by decide) hs hpl) (h B F H σ _ L fun v F1 H1 e1 r1 => ?_)
  obtain ⟨d, ⟨ad, C', rfl, ha, hC⟩, hd⟩ := t.at_ r1
  rw [hn] at hC
  obtain rfl := ns_one xC.ns hC
  have s1 := (L.step e1).same
  exact ⟨ad, C', d, .ref D, .ref D, k, rfl, s1 _ _ ha, fun dx z => by obtain ⟨fs, y⟩ := hd dx z; exact ⟨fs, s1 _ _ y⟩, xC.is, .own D, (hk C' D xC.ns xD.ns).2, q _ F1 H1 e1 rfl⟩
theorem ev_isiEB {α : Type} [i : Rep α] [t : IsErr α] {x : α} {n : Str} (T : String) {k : Bool} (hm : X.mg "isinstance" = none) (hmT : X.mg (Str.ofString T) = none) (hx : XC X.K X.mg n) (hk : XSubT X.K n T k) (h : EV X Γ e x) (hn : autoParam (t.cls x = n) aRfl) (hvT : bootBuiltins (Str.ofString T) = some (.type T) := by decide +kernel) (hg : autoParam (Gl X "isinstance") aRfl) (hgT : autoParam (Gl X (Str.ofString T)) aRfl)
    (hnT : autoParam (Str.ofString T ≠ "__name__") aDec) (hdT : autoParam ((Str.ofString T == ("__debug__" : Str)) = false) aDec)
    (hs : autoParam (starEach [e, .Name (Str.ofString T) p2] X.env = (false, eval e X.env) :: starEach [.Name (Str.ofString T) p2] X.env) aStar) (hs2 : autoParam (starEach [.Name (Str.ofString T) p2] X.env = (false, eval (.Name (Str.ofString T) p2) X.env) :: starEach [] X.env) aStar) (hpl : autoParam ((backTo pos (starEach [.Name (Str.ofString T) p2] X.env)).any (·.1) = false) aPl) :
    EV X Γ (.Call (.Name "isinstance" p) [e, .Name (Str.ofString T) p2] [] pos) k := fun B F H σ Q L q => by
  obtain ⟨C, xC, gC⟩ := hx
  refine WE.of (pe_callB call_isErr hg hm (by decide +kernel) (pa_cons peW (pa_cons (pe_bltn (v := .ty T) hgT hmT hvT rfl hnT hdT) pa_nil hs2) hs) (by decide) (by decide) hs hpl) (h B F H σ _ L fun v F1 H1 e1 r1 => ?_)
  obtain ⟨d, ⟨ad, C', rfl, ha, hC⟩, hd⟩ := t.at_ r1
  rw [hn] at hC
  obtain rfl := ns_one xC.ns hC
  have s1 := (L.step e1).same
  exact ⟨ad, C', d, .ty T, .type T, k, rfl, s1 _ _ ha, fun dx z => by obtain ⟨fs, y⟩ := hd dx z; exact ⟨fs, s1 _ _ y⟩, xC.is, .ty T, hk C' xC.ns, q _ F1 H1 e1 rfl⟩
theorem pe_xfH {te : TE} {n : Str} (he : PE X e te) (hb : autoParam (attributeBase e n X.env (eval e X.env) = eval e X.env) aRfl) : PE X (.Attribute e n pos) (fun σ H Q => te σ H fun x H1 => ∃ (a C dx : Addr) (fs : List (Str × V)) (v : V), x = .ref a ∧ H1 a = some (ErrO (.ref C) (some dx) a) ∧ H1 dx = some (.xd fs) ∧ ExcC X.K C ∧ PySem.W.findIn X.K (.ref C) n = some none ∧ fs.lookup n = some v ∧ Q v H1) := by
  refine ⟨fun pins s σ H Q I h => ?_⟩
  refine attr_of hb (thn (he.run pins s σ H _ I h) fun u s1 hh => ?_)
  obtain ⟨x, H1, I1, rx, ad, C, dx, fs, v, ex, ha, hd, T, hno, l, q⟩ := hh
  subst ex
  obtain rfl : u = Value.ref ad := rx
  have x : ObjOk X.prog X.w H1 s1.heap ad (ErrO (.ref C) (some dx) ad) := I1.hok ad _ ha
  obtain ⟨⟨oe, vs, hget, hz, hv⟩, _⟩ := x
  have no : PySem.W.notCls oe = true := by unfold PySem.W.notCls; rw [hv] <;> rfl
  have hx : ObjOk X.prog X.w H1 s1.heap dx (.xd fs) := I1.hok dx _ hd
  obtain ⟨mA, hns, hr⟩ := hx
  obtain ⟨od, ho, hl⟩ := lookIn_ns hns
  obtain ⟨u, hu, ru⟩ := RelO.some_of (v := v) (o := mA n) (by rw [← l]; exact hr n)
  have J : PySem.W.InstAt s1.heap ad oe C (some od) := ⟨hget, hz.1, no, by rw [hz.2]; exact ho⟩
  exact HandSPX.exc_get I1.kIn J T.hg T.hk T.hs (PySem.W.findObj_own T.hd hno rfl (by rw [hl, hu])) (handed_of ru) ⟨v, H1, I1.tok _, ru, q⟩
noncomputable def XFld (K : PySem.W.Frag) (n f : Str) : Prop := ∀ C, PySem.W.nsIn K mainGlobals n = some (some (.ref C)) → PySem.W.findIn K (.ref C) f = some none
theorem ev_errW {α : Type} [i : Rep α] {x : ErrW α} {n f : Str} (hx : XC X.K X.mg n) (hf : XFld X.K n f) (h : EV X Γ e x) (hn : autoParam (x.cls = n) aRfl) (hfx : autoParam (x.fld = f) aRfl) (hb : autoParam (attributeBase e f X.env (eval e X.env) = eval e X.env) aRfl) : EV X Γ (.Attribute e f pos) x.why := fun B F H σ Q L q =>
  WE.of (pe_xfH peW hb) (h B F H σ _ L fun v F1 H1 e1 r1 => by
    obtain ⟨C, xC, gC⟩ := hx
    obtain ⟨dx, w, ⟨ad, C', rfl, ha, hC⟩, hd, r⟩ := r1
    rw [hn] at hC
    obtain rfl := ns_one xC.ns hC
    have s1 := (L.step e1).same
    exact ⟨ad, C', dx, _, w, rfl, s1 _ _ ha, s1 _ _ hd, xC.is, hf C' xC.ns, by rw [hfx]; simp [List.lookup], q w F1 H1 e1 r⟩)
class NonN (α : Type) [i : Rep α] : Prop where
  nn : ∀ {K F v} {x : α}, i.rp K F v x → v ≠ .non
noncomputable instance : NonN Int := ⟨fun {_ _ v x} h z => by obtain rfl : v = .int x := h; cases z⟩
noncomputable instance : NonN Bool := ⟨fun {_ _ v x} h z => by obtain rfl : v = .bl x := h; cases z⟩
noncomputable instance : NonN (List Nat) := ⟨fun {_ _ v x} h z => by obtain rfl : v = .str (sx x) := h; cases z⟩
noncomputable instance {α : Type} [i : Rep α] : NonN (List α) := ⟨fun h z => by obtain ⟨a, vs, rfl, _⟩ := h; cases z⟩
noncomputable instance {α : Type} [i : Rep α] : NonN (Tup α) := ⟨fun h z => by obtain ⟨a, vs, rfl, _⟩ := h; cases z⟩
noncomputable instance {α β : Type} [i : Rep α] [j : Rep β] : NonN (α × β) := ⟨fun h z => by obtain ⟨a, u, w, rfl, _⟩ := h; cases z⟩
noncomputable instance : NonN Err := ⟨fun h z => by obtain ⟨a, u, rfl, _⟩ := h; cases z⟩
noncomputable instance {α : Type} [i : Rep α] : NonN (ErrW α) := ⟨fun h z => by obtain ⟨a, u, ⟨_, _, rfl, _⟩, _⟩ := h; cases z⟩
theorem o_isNo {x : α} [NonN α] : OB X (compareOp .Is) x () false := ob_flat op_isN fun F H v u Q s r1 r2 q => ⟨r2, by
  rw [decide_eq_false (NonN.nn r1)]
  exact q _ rfl⟩
theorem o_notNo {x : α} [NonN α] : OB X (compareOp .IsNot) x () true := ob_flat op_notN fun F H v u Q s r1 r2 q => ⟨r2, by
  rw [decide_eq_false (NonN.nn r1)]
  exact q _ rfl⟩
theorem o_isU : OB X (compareOp .Is) () () true := ob_flat op_isN fun F H v u Q s r1 r2 q => ⟨r2, by
  obtain rfl : v = .non := r1
  exact q _ rfl⟩
theorem o_notU : OB X (compareOp .IsNot) () () false := ob_flat op_notN fun F H v u Q s r1 r2 q => ⟨r2, by
  obtain rfl : v = .non := r1
  exact q _ rfl⟩
theorem o_isO {x : Option α} [NonN α] : OB X (compareOp .Is) x () x.isNone := by
  cases x with
  | none => exact fun F H v u Q s r1 r2 => o_isU F H v u Q s r1 r2
  | some x => exact fun F H v u Q s r1 r2 => o_isNo (x := x) F H v u Q s r1 r2
theorem o_notO {x : Option α} [NonN α] : OB X (compareOp .IsNot) x () x.isSome := by
  cases x with
  | none => exact fun F H v u Q s r1 r2 => o_notU F H v u Q s r1 r2
  | some x => exact fun F H v u Q s r1 r2 => o_notNo (x := x) F H v u Q s r1 r2
theorem ev_un {x : α} (h : EV X Γ e (some x)) : EV X Γ e x := fun B F H σ Q L q => h B F H σ Q L fun v F' H' ex r => q v F' H' ex r
noncomputable def EXX (X : Cx) (Γ : List Slot) (e : Expr) (P : Ret → Prop) (R : Exn → Prop) : Prop :=
  ∀ B F H σ Q, Lc X.K B F H σ Γ → (∀ r v F' H', P r → Ext F H F' H' → ROk X.K (Nw H) F' H' v r → Q v H') → (∀ x u d F' H', R x → Ext F H F' H' → XOk X.K (Nw H) F' H' u d x → XW X u d σ H') → WE X e σ H Q
theorem exx_call {n : Str} {k : Nat} {ps : List Str} {S : Spec} {A : List Slot} {P : Ret → Prop} {R : Exn → Prop} (G : Has X.prog X.w X.K X.mg X.base k n ps S) (hr : Room k X.A) (ha : EA X Γ (e :: es) A)
    (hS : ∀ P' R', (∀ r, P r → P' r) → (∀ x, R x → R' x) → S A P' R') (hg : autoParam (Gl X n) aRfl) (hd : autoParam ((n == ("__debug__" : Str)) = false) aDec)
    (he : autoParam (starEach (e :: es) X.env = (false, eval e X.env) :: starEach es X.env) aStar) (hpl : autoParam ((backTo pos (starEach es X.env)).any (·.1) = false) aPl) : EXX X Γ (.Call (.Name n p) (e :: es) [] pos) P R := fun B F H σ Q L q z => by
  obtain ⟨f, fd, hm, hk, hb, G⟩ := G.ex
  refine WE.of (pe_callS (E := fun σ cls d H => XW X cls d σ H) G hr hg hm hk hb (fun σ => passAt takesW σ) paW hd he hpl) (ha B F H σ _ L fun vs F1 H1 e1 r1 => ?_)
  exact ⟨F1, A, (L.step e1).same, r1.toO, r1.apart, hS _ _ (fun r hr v F2 H2 e2 ok => q r v F2 H2 hr (e1.thenM e2 fun _ m => (r1.ma m).elim) (ok.imp fun b h => e1.hs.free (h.elim id fun m => (r1.ma m).elim))) fun x hx u d F2 H2 e2 ok => z x u d F2 H2 hx (e1.thenM e2 fun _ m => (r1.ma m).elim) (ok.imp fun b h => e1.hs.free (h.elim id fun m => (r1.ma m).elim))⟩
theorem st_setR (k : Nat) {n : Str} {R : Exn → Prop} (he : EXX X Γ e (fun _ => False) R) (hR : ∀ x, R x → E.ex Γ x) (hN : X.N.Nodup) (hi : autoParam (X.N[k]? = some n) aRfl) (hx : autoParam (L2.Loc X.env.scope n) aLoc)
    (hs : autoParam (swapsWith e (some (.Name n p)) pos.line X.env = pure false) aRfl) (hf : autoParam (X.fn n = true ∨ X.env.scope.names.lookup n = some .local) Tw.aFn) : ST X (.Assign [.Name n p] e pos :: rest) Γ E := fun B F H σ D L ed =>
  WP.cons (ps_set hN hi hx peW hs hf) (he B F H σ _ L (fun r v F1 H1 er e1 r1 => er.elim) fun x u d F1 H1 hx e1 ok => ed.exS (Same.refl F) (hR x hx) L e1 ok)
theorem st_retX {P : Ret → Prop} {R : Exn → Prop} (he : EXX X Γ e P R) (hP : ∀ r, P r → E.rt r) (hR : ∀ x, R x → E.ex Γ x) : ST X (.Return (some e) pos :: rest) Γ E := fun B F H σ D L ed =>
  WP.cons (ps_ret peW) (he B F H σ _ L (fun r v F1 H1 hr e1 ok => ed.rt r v F1 H1 (hP r hr) (L.step e1).ext (ok.imp fun b h => L.nw h)) fun x u d F1 H1 hx e1 ok => ed.exS (Same.refl F) (hR x hx) L e1 ok)
theorem st_dropX {P : Ret → Prop} {R : Exn → Prop} (he : EXX X Γ e P R) (hr : ST X rest Γ E) (hR : ∀ x, R x → E.ex Γ x) (hs : autoParam (swapsWith e none pos.line X.env = pure false) aRfl) : ST X (.Expr e pos :: rest) Γ E := fun B F H σ D L ed =>
  WP.cons (ps_expr peW hs) (he B F H σ _ L (fun r v F1 H1 _ e1 _ => hr B F1 H1 σ D (L.step e1) (ed.weak e1.ff)) fun x u d F1 H1 hx e1 ok => ed.exS (Same.refl F) (hR x hx) L e1 ok)
theorem raisesX {n : Str} {C : Addr} (x : XCls X.K n C) : Raises X (.ref C) := raises_own x.is.hs x.ty
theorem st_raise0 {n m : Str} {j : Nat} {p1 p3 : Pos} (hc : XC X.K X.mg n) (hp : XPlain X.K n) (hE : E.ex Γ ⟨n, "", .no⟩) (hcalm : autoParam (X.calm = true) aRfl) (hg : autoParam (Gl X n) aRfl) (hdb : autoParam ((n == ("__debug__" : Str)) = false) aDec) :
    ST X (.Raise (some (.Call (.Name n p) [.Constant (.str m) j p2] [] p1)) none p3 :: rest) Γ E := fun B F H σ D L ed => by
  obtain ⟨C, xC, gC⟩ := hc
  refine WP.cons (ps_raise hcalm takesW (pmk_own PySem.F.excBase_ValueError (hp C xC.ns) gC xC.kp (raisesX xC) hg hdb)) ?_
  exact ed.exS (Same.refl F) hE L (Ext.refl L.same) ⟨C, rfl, xC.ns, rfl⟩
noncomputable def InitSp (K : PySem.W.Frag) (C : Addr) (fld : Str) : Sp := fun vs H Q E => ∃ (a : Addr) (v : V), vs = [.ref a, v] ∧ H a = some (exo a C none) ∧ ∀ dx, H dx = none → dx ≠ a → Q .non (upd (upd H dx (exd dx [(fld, v)])) a (exo a C (some dx)))
structure XInit (P : Program) (w : World) (K : PySem.W.Frag) (mg : Str → Option Value) (base : Heap) (k : Nat) (n fld : Str) : Prop where
  ex : ∀ C, PySem.W.nsIn K mainGlobals n = some (some (.ref C)) → OexC K C ∧ ∃ (fI : Addr) (fd : FuncData) (ps : List Str), PySem.W.findIn K (.ref C) "__init__" = some (some (.ref fI)) ∧ PySem.W.typeIn K (.ref fI) = some (.type "function") ∧ Binds K fd ps [] ∧ FnOk P w K mg base (L2.CX P w) k fI fd ps (InitSp K C fld)
theorem st_raise1 {n fld : Str} {y : α} {k : Nat} {p1 p3 : Pos} (hc : XC X.K X.mg n) (hi : XInit X.prog X.w X.K X.mg X.base k n fld) (hr : Room (k + 1) X.A) (he : EV X Γ e y) (hE : E.ex Γ ⟨n, fld, .val i y⟩) (hcalm : autoParam (X.calm = true) aRfl) (hg : autoParam (Gl X n) aRfl) (hdb : autoParam ((n == ("__debug__" : Str)) = false) aDec)
    (hs : autoParam (starEach [e] X.env = (false, eval e X.env) :: starEach [] X.env) aStar) (hpl : autoParam ((backTo p1 (starEach [] X.env)).any (·.1) = false) aPl) :
    ST X (.Raise (some (.Call (.Name n p) [e] [] p1)) none p3 :: rest) Γ E := fun B F H σ D L ed => by
  obtain ⟨C, xC, gC⟩ := hc
  obtain ⟨T, fI, fd, ps, iC, tI, hb, F1⟩ := hi.ex C xC.ns
  refine WP.cons (ps_raise hcalm takesW (pmk_oex T iC tI F1 hr hb .nil passL hg gC paW hdb hs hpl)) ?_
  refine ea_cons he ea_nil hs B F H σ _ L fun vs F1 H1 e1 r1 => ?_
  match vs, r1 with
  | [w], ⟨rw1, _⟩ =>
  refine ⟨by show 1 ≤ 1000; decide, fun a ha => ⟨a, w, rfl, upd_same, fun dx hdx hne => ⟨rfl, dx, [(fld, w)], upd_same, by rw [upd_ne hne, upd_same], ?_, ?_⟩⟩⟩
  · rw [upd_ne hne] at hdx; exact hdx
  · have hd1 : H1 dx = none := by rw [upd_ne hne] at hdx; exact hdx
    have s1 := (L.step e1).same
    have eq : upd (del (upd (upd (upd H1 a (exo a C none)) dx (exd dx [(fld, w)])) a (exo a C (some dx))) a) dx (.xd [(fld, w)]) = upd H1 dx (.xd [(fld, w)]) := by
      funext b
      by_cases hbd : b = dx
      · subst hbd; rw [upd_same, upd_same]
      · rw [upd_ne hbd, upd_ne hbd]
        by_cases hba : b = a
        · subst hba; rw [del_same, ha]
        · rw [del_ne hba, upd_ne hba, upd_ne hbd, upd_ne hba]
    rw [eq]
    have e2 := Ext.apart (o := .xd [(fld, w)]) s1 hd1
    refine ed.exS (Same.refl F) hE L (e1.trans e2) ⟨C, rfl, xC.ns, dx, w, rfl, e1.hs.free hd1, s1.free hd1, upd_same, rw1⟩
end
section
variable {P : Program} {w : World} {K : PySem.W.Frag} {mg : Str → Option Value} {base : Heap}
theorem Has.ofX {n : Str} {st : Stmt} {N ps : List Str} {k : Nat} {S : Spec} (D : Df K mg n st ps) (sc : FnScope N ps (defScope st)) (len : ∀ A Q R, S A Q R → A.length = ps.length)
    (body : ∀ (f : Addr) (cdv : Value) (A : Around) (outer : List Env) (s : Shared) (H : Hp) (E : XK), Room k (A.deeper (envOfC n (defScope st) s.heap.objs.size f cdv)) → ∀ Γ Q R, S Γ Q R →
      ST (cxOf (L2.CX P w) P w K mg base N n (defScope st) f cdv A outer s H E) (defBody st) (Γ ++ List.replicate (N.length - ps.length) .no) (finX Q R)) :
    Has P w K mg base (k + 1) n ps S := by
  obtain ⟨f, fd, F, hb, hm⟩ := D.ex
  refine ⟨f, fd, hm, F.kp, hb, F.okX sc (fun vs H Q E ⟨F0, A, s, r, ap, h⟩ => ?_) (fun cdv A outer s H vs Q E hr h => ?_)⟩
  · rw [r.len]; exact len _ _ _ h
  · obtain ⟨F0, A0, sm, r, ap, h⟩ := h
    refine ⟨_, psW, ?_⟩
    have hl := len _ _ _ h
    have L0 := lc_start (K := K) sm r ap (N.length - ps.length)
    have L1 : Lc K ⟨F0, H, MA A0⟩ F0 H (L2.start N vs) (A0 ++ List.replicate (N.length - ps.length) .no) := by
      unfold L2.start
      rw [show vs.length = ps.length from r.len.trans hl]
      exact L0
    refine body f cdv A outer s H E hr A0 _ _ h ⟨F0, H, MA A0⟩ F0 H _ _ L1 ⟨fun F' H' σ' Γ' _ hq L => ?_, fun r v F' H' hq ex ok => hq v F' H' ex ok, fun _ _ _ _ _ z => z.elim, fun _ _ _ _ _ z => z.elim, fun F1 H1 σ' Γ' x u d _ hq L ok => ?_⟩
    · exact hq .non F' H' L.ext rfl
    · exact XW.of (L2.takes_of rfl rfl rfl rfl) (hq u d F1 H1 L.ext (ok.imp fun b h => h.1))
end
end Tw
namespace Tw
open PySem PySem.Spec PyProof.Rows L2 TL
section
variable {X : Cx} {pins : List (Addr × Obj)} {σ : L2.St} {H : Hp} {s : Shared}
theorem inv_suite (I : Inv X pins σ H s) (a : Addr) : Inv (X.suite a (X.pn ++ pins)) [] σ H s :=
  ⟨I.ok.suite _ _, I.os, I.bare, I.base, I.loc, I.cell, I.free, I.freeC, fun p hp => I.pin p (by rw [List.append_nil] at hp; exact hp), I.hok, I.len⟩
theorem inv_unsuite {a : Addr} {pn' : List (Addr × Obj)} (I : Inv (X.suite a (X.pn ++ pins)) pn' σ H s) (ok : X.Ok) : Inv X pins σ H s :=
  ⟨ok, I.os, I.bare, I.base, I.loc, I.cell, I.free, I.freeC, fun p hp => I.pin p (List.mem_append_left _ hp), I.hok, I.len⟩
theorem inv_caught {a : Addr} {cls : Value} {d : Option Addr} {oe : Obj} {vs : Array Value} {s0 : Shared} (I : Inv X pins σ H s) (J : Inv X pins σ H s0) (h0 : s0.heap.get? a = none) (na : H a = none) (nL : a ≠ X.env.locals) (e : s.heap.get? a = some oe) (z : Zc cls d oe) (hd : oe.data = .fields vs) : Inv X pins σ (upd H a (ErrO cls d a)) s := by
  have n0 : ∀ b o, X.s_0.heap.get? b = some o → b ∉ X.ex → b ≠ a := fun b o q hx z => by
    subst z
    obtain ⟨o', q'⟩ := J.base.there b o q hx
    rw [h0] at q'; cases q'
  have nH : ∀ b o, H b = some o → b ≠ a := fun b o q z => by rw [z, na] at q; cases q
  refine ⟨I.ok, I.os, I.bare, ⟨I.base.keep, I.base.slot, fun b o q n hx => ?_, I.base.there, fun b xs q => ?_, fun b o v q => ?_, fun b ps q => ?_⟩, I.loc, I.cell, ?_, fun x c q => ?_, fun p hp => ?_, ?_, I.len⟩
  · rw [upd_ne (n0 b o q hx)]; exact I.base.free b o q n hx
  · have := I.base.tups b xs q
    rw [upd_ne (nH _ _ this)]; exact this
  · have := I.base.frzs b o v q
    rw [upd_ne (nH _ _ this)]; exact this
  · obtain ⟨m, this⟩ := I.base.tbls b ps q
    exact ⟨m, by rw [upd_ne (nH _ _ this)]; exact this⟩
  · rw [upd_ne (Ne.symm nL)]; exact I.free
  · have nc : c ≠ a := fun y => by
      obtain ⟨v, o', q1, q2⟩ := I.cell x c q
      rw [y, e] at q1
      cases q1
      rw [hd] at q2; cases q2
    rw [upd_ne nc]; exact I.freeC x c q
  · obtain ⟨p1, p2, p3, p4, p5⟩ := I.pin p hp
    obtain ⟨q1, _⟩ := J.pin p hp
    have np : p.1 ≠ a := fun y => by rw [y, h0] at q1; cases q1
    exact ⟨p1, by rw [upd_ne np]; exact p2, p3, p4, p5⟩
  · intro b o q
    by_cases hb : b = a
    · subst hb
      rw [upd_same] at q
      cases q
      exact errO_ok e z hd
    · rw [upd_ne hb] at q
      exact (I.hok b o q).stay (fun _ _ _ r => r) (fun c r => by rw [upd_ne (nH _ _ r)]; exact r) fun c xs r => by rw [upd_ne (nH _ _ r)]; exact r
end
noncomputable def wKept (K : PySem.W.Frag) (c : Value) (i : Nat) (ts : Addr → TS) (Wout : WX) (D : Ends) : WX := fun cls d σ H =>
  ∃ b, PySem.W.exmOne K cls c = some b ∧ (b = true → ∀ a, H a = none → ts a { nx := fun σ' H' => D.nx (σ'.set i none) H', rt := D.rt, bk := fun σ' H' => D.bk (σ'.set i none) H', ct := fun σ' H' => D.ct (σ'.set i none) H' } (σ.set i (some (.ref a))) (upd H a (ErrO cls d a))) ∧
    (b = false → Wout cls d σ H)
section
variable {X : Cx} {x n : Str} {c : Value} {i : Nat} {body suite : List Stmt} {b₀ : Stmt} {np pos pos' : Pos} {tb : WX → TS} {ts : Addr → TS} {Wout : WX}
theorem ps_try_kept (hs : X.stack = X.env :: X.outer) (hf : X.env.frame = some X.env.locals) (hN : X.N.Nodup) (hi : X.N[i]? = some n) (hln : X.env.kindOf n = some .local) (hc : Names X x c) (tk : Takes X Wout)
    (hb : ∀ (W : WX) (pn : List (Addr × Obj)) (xe : Value → Shared → Prop), Takes (X.tr pn xe) W → PassesOwn (model X.prog X.w) X.A X.env xe → PSs (X.tr pn xe) body (tb W))
    (hsu : ∀ (a : Addr) (pn : List (Addr × Obj)), PSs (X.suite a pn) (b₀ :: suite) (ts a)) :
    PS X (.Try body [.ExceptHandler (some (.Name x np)) (some n) (b₀ :: suite) pos'] [] [] pos) (fun D σ H => tb (wKept X.K c i ts Wout D) D σ H) := by
  refine ⟨fun pins s σ H D I h => ?_⟩
  have ok := I.ok
  have hfr : X.A.frames = some (X.env :: X.outer) := by rw [ok.frames, hs]
  have hloc : L2.Loc X.env.scope n := .inl hln
  refine wpAny_Try_except ?_
  refine wpAny_mono ((hb (wKept X.K c i ts Wout D) (X.pn ++ pins) (fun e s₁ => wpAny (model X.prog X.w) X.A (noteFrame e X.env) (fun _ s₂ => wpAny (model X.prog X.w) X.A (setFlight e none) (fun _ s₃ =>
    wpAny (model X.prog X.w) X.A (handleBy e X.env [.ExceptHandler (some (.Name x np)) (some n) (b₀ :: suite) pos']) (SP X pins D) X.xe s₃) X.xe s₂) X.xe s₁) (fun u s' xx => ?_) PassesOwn.looking).run [] s σ H D (I.toTry _) h) (fun f s1 hsp => ?_) (fun e s1 he => he)
  · obtain ⟨a, B, sI, pins', σ', H', cls, d, rfl, J', nb, up, sky, na, os, ag, b, hb1, hyes, hno⟩ := xx
    have J : Inv X pins σ' H' sI := J'.ofTry ok
    have sky' : Sky B (X.env :: X.outer) a (Zc cls d) X.env.locals s'.heap := by rw [← hs]; exact sky
    show wpAny (model X.prog X.w) X.A (noteFrame (.ref a) X.env) _ _ _
    refine Sky.land Zc.steady hfr hf sky' fun h3 fl3 up3 => ?_
    have J3 : Inv X pins σ' H' { s' with heap := h3 } := J.landed nb fl3.1 (up.trans up3) os ag
    obtain ⟨oe3, vs3, he3, hz3, hd3⟩ := fl3.there
    have notFr : ∀ {h : Heap} {o : Obj} {vs : Array Value}, h.FunFrames B (X.env :: X.outer) → h.get? a = some o → o.data = .fields vs → a ∉ frs (X.env :: X.outer) := fun {h o vs} ff e dd hm => by
      obtain ⟨_, o', e', hnf⟩ := ff.mem hm
      rw [e] at e'; cases e'
      exact hnf _ dd
    have nfr := notFr fl3.2.2.1 he3 hd3
    have nL : a ≠ X.env.locals := fun z => nfr (List.mem_filterMap.mpr ⟨X.env, List.mem_cons_self, by rw [hf, z]⟩)
    have nF : a ∉ X.fs := fun hm => by
      obtain ⟨e, he, q⟩ := List.mem_filterMap.mp hm
      exact nfr (List.mem_filterMap.mpr ⟨e, List.mem_cons_of_mem _ he, q⟩)
    have nI : sI.heap.get? a = none := by
      cases q : sI.heap.get? a with
      | none => rfl
      | some o =>
        have z := nb a o q (by rw [hs]; exact nfr)
        rw [fl3.2.1] at z; cases z
    have S3 := J3.suite he3 hd3 na nL nF
    refine wpAny_handleBy_cons (codeAny_handlers_test ?_) (by intro q; cases q)
    have LT : PySem.W.Looks (model X.prog X.w) h3 (typeOf (.ref a)) cls := fun A Q E s k q => wpAny_typeOf_ref (k _ _ he3) (by rw [hz3.1]; exact q)
    have LM := PySem.W.exm_one (M := model X.prog X.w) (J3.kIn) LT hb1
    have test : ∀ {Q : Value → Shared → Prop} {E : Value → Shared → Prop}, Q c { s' with heap := h3 } → wpAny (model X.prog X.w) (X.A.mark (some (.ref a))) (eval (.Name x np) X.env) Q E { s' with heap := h3 } := fun {Q E} q => by
      obtain ⟨hg, hdbg, hm | ⟨hm, hv, hnn⟩⟩ := hc
      · exact ld_glob (X := X.suite a ((a, oe3) :: (X.pn ++ pins))) S3 hg hm q hdbg
      · exact ld_blt (X := X.suite a ((a, oe3) :: (X.pn ++ pins))) S3 hg hm hv q hnn hdbg
    refine test (LM.here ?_)
    cases b with
    | true =>
      refine codeAny_handlers_suite_as ?_
      refine HandSPX.lands_againZ fl3 fun h4 fl4 up4 => ?_
      have J4 : Inv X pins σ' H' { s' with heap := h4 } := J.landed nb fl4.1 ((up.trans up3).trans up4) os ag
      obtain ⟨oe4, vs4, he4, hz4, hd4⟩ := fl4.there
      have JT : Inv X pins σ' (upd H' a (ErrO cls d a)) { s' with heap := h4 } := inv_caught J4 J nI na nL he4 hz4 hd4
      have S4 := inv_suite JT a
      refine store_ok (X := X.suite a (X.pn ++ pins)) (v := .ref a) S4 hN hi hloc rfl (fun s5 S5 => ?_) (.inr hln)
      refine wpAny_mono ((hsu a (X.pn ++ pins)).run [] s5 _ _ _ S5 (hyes rfl a na)) (fun f s6 hsp => ?_) (fun _ _ z => False.elim z)
      have end_ : ∀ {σ6 : L2.St} {H6 : Hp} {Q : Shared → Prop}, Inv (X.suite a (X.pn ++ pins)) [] σ6 H6 s6 → (∀ s7, Inv X pins (σ6.set i none) H6 s7 → Q s7) →
          wpAny (model X.prog X.w) X.A (do bindName X.env n .none; unbindBehindTheSuite X.env n pos') (fun _ s7 => Q s7) X.xe s6 := fun {σ6 H6 Q} S6 hq => gone_ok (inv_unsuite S6 ok) hN hi hln hq
      cases f with
      | next =>
        obtain ⟨σ6, H6, S6, q6⟩ := hsp
        exact end_ S6 fun s7 J7 => ⟨_, _, J7, q6⟩
      | brk =>
        obtain ⟨σ6, H6, S6, q6⟩ := hsp
        exact end_ S6 fun s7 J7 => ⟨_, _, J7, q6⟩
      | cont =>
        obtain ⟨σ6, H6, S6, q6⟩ := hsp
        exact end_ S6 fun s7 J7 => ⟨_, _, J7, q6⟩
      | ret u =>
        obtain ⟨v6, σ6, H6, S6, r6, q6⟩ := hsp
        exact end_ S6 fun s7 J7 => ⟨_, _, _, J7, r6, q6⟩
    | false =>
      show wpAny _ X.A (handleBy (.ref a) X.env []) _ _ _
      refine wpAny_handleBy_nil ?_
      obtain ⟨k1, k2, k3, oe, vs, T, oT, ts', he, hz, hd, h1, hr⟩ := id fl3
      unfold PySem.passOn
      refine wpAny_bind (wpAny_field he hd h1 ?_)
      rw [if_neg (show ¬ ((Value.ref T == Value.none) = true) from by simp)]
      have fin : wpAny (model X.prog X.w) X.A (setFlight (.ref a) X.env.frame) (fun _ s4 => wpAny (model X.prog X.w) X.A (throw (.ref a) : Sem Flow) (SP X pins D) X.xe s4) X.xe { s' with heap := h3 } := by
        rw [hf]
        refine HandSPX.setFlight_upZ fl3 fun h4 hh4 up4 => wpAny_throw (tk _ _ ?_)
        exact ⟨a, B, sI, pins, σ', H', cls, d, rfl, J, nb, (up.trans up3).trans up4, .inr (.inr (by rw [hs]; exact hh4)), na, os, ag, hno rfl⟩
      first
        | exact wpAny_bind (wpAny_pure (wpAny_bind fin))
        | exact wpAny_bind fin
  · cases f with
    | next =>
      obtain ⟨σ', H', J', q⟩ := hsp
      exact wpAny_execs_nil ⟨σ', H', J'.ofTry ok, q⟩
    | brk =>
      obtain ⟨σ', H', J', q⟩ := hsp
      exact ⟨σ', H', J'.ofTry ok, q⟩
    | cont =>
      obtain ⟨σ', H', J', q⟩ := hsp
      exact ⟨σ', H', J'.ofTry ok, q⟩
    | ret u =>
      obtain ⟨v, σ', H', J', r, q⟩ := hsp
      exact ⟨v, σ', H', J'.ofTry ok, r, q⟩
end
section
variable {X : Cx} {Γ : List Slot} {α β γ : Type} {pos pos' np p p2 : Pos} {E : SE} {rest body suite : List Stmt} {b₀ : Stmt}
theorem Lc.caught {K : PySem.W.Frag} {B : Bs} {F H : Hp} {σ : L2.St} {Γ : List Slot} {C : Value} {d : Option Addr} {x : Exn} {a : Addr} (L : Lc K B F H σ Γ) (ok : XOk K (fun b => B.nw b ∧ Free Γ b) F H C d x) (ha : H a = none) :
    ∃ F3, Same F F3 ∧ Lc K B F3 (upd H a (ErrO C d a)) σ Γ ∧ SlotOk K B F3 (upd H a (ErrO C d a)) (some (.ref a)) x.slot := by
  obtain ⟨C, rfl, hC, h⟩ := ok
  obtain ⟨cls, fld, why⟩ := x
  cases why with
  | no =>
    have hd : d = none := h
    subst hd
    have e2 := Ext.new (o := ErrO (.ref C) none a) L.same ha
    exact ⟨_, e2.ff, L.step e2, .ref a, rfl, a, C, rfl, upd_same, hC⟩
  | own o => exact h.elim
  | val i y =>
    obtain ⟨dx, w, rfl, ⟨nb, nf⟩, fd, hd2, r⟩ := h
    have sm : Same F (upd F dx (.xd [(fld, w)])) := fun b u q => by rw [upd_ne (ne_of_none q fd)]; exact q
    have sm2 : Same (upd F dx (.xd [(fld, w)])) H := fun b u q => by
      by_cases hb : b = dx
      · subst hb; rw [upd_same] at q; rw [← q]; exact hd2
      · rw [upd_ne hb] at q; exact L.same _ _ q
    have L1 : Lc K B (upd F dx (.xd [(fld, w)])) H σ Γ := by
      refine ⟨⟨L.ext.ff.trans sm, sm2, L.ext.hh, fun b hm h1 h2 => ?_, L.ext.th⟩, L.len, fun q t hq => ?_, L.ap⟩
      · have : b ≠ dx := fun z => by
          subst z
          exact nb.elim (fun z => h2 z) hm
        rw [upd_ne this]; exact L.ext.nwM b hm h1 h2
      · have old := L.ok q t hq
        cases t with
        | no => trivial
        | val i x => obtain ⟨v, e2, r⟩ := old; exact ⟨v, e2, i.mono sm r⟩
        | own o2 =>
          obtain ⟨u, eu, ok2, f2⟩ := old
          exact ⟨u, eu, o2.stay sm (fun _ _ _ h => h) ok2, fun b hb => ⟨by rw [upd_ne (fun (z : b = dx) => nf q o2 hq (by rw [← z]; exact hb))]; exact (f2 b hb).1, (f2 b hb).2⟩⟩
    have e2 := Ext.new (o := ErrO (.ref C) (some dx) a) sm2 ha
    refine ⟨_, sm.trans e2.ff, L1.step e2, .ref a, rfl, dx, w, ⟨a, C, rfl, upd_same, hC⟩, ?_, i.mono (sm.trans e2.ff) r⟩
    rw [upd_ne (fun z => by subst z; rw [ha] at hd2; cases hd2), upd_same]
theorem exn_own (x : Exn) : x.slot.isOwn = false := by
  obtain ⟨cls, fld, why⟩ := x
  cases why <;> rfl
theorem st_try (m : Nat) {x n : Str} (hN : X.N.Nodup) (hc : XC X.K X.mg x)
    (hb : ∀ pn xe, PassesOwn (model X.prog X.w) X.A X.env xe → ST (X.tr pn xe) body Γ { E with nx := fun Γ' => ST X rest Γ' E, ex := fun Γ' y => (XSub X.K y.cls x true ∧ ∀ a pn, ST (X.suite a pn) (b₀ :: suite) (Γ'.set m y.slot)
        { nx := fun Γ2 => ST X rest (Γ2.set m .no) E, rt := E.rt, bk := fun Γ2 => E.bk (Γ2.set m .no), ct := fun Γ2 => E.ct (Γ2.set m .no), ex := fun _ _ => False }) ∨ (XSub X.K y.cls x false ∧ E.ex Γ' y) })
    (hi : autoParam (X.N[m]? = some n) aRfl) (hln : autoParam (X.env.kindOf n = some .local) aRfl) (hg : autoParam (Gl X x) aRfl) (hdb : autoParam ((x == ("__debug__" : Str)) = false) aDec) (hs : autoParam (X.stack = X.env :: X.outer) aRfl) (hf : autoParam (X.env.frame = some X.env.locals) aRfl) :
    ST X (.Try body [.ExceptHandler (some (.Name x np)) (some n) (b₀ :: suite) pos'] [] [] pos :: rest) Γ E := fun B F H σ D L ed => by
  obtain ⟨C, xC, gC⟩ := hc
  refine WP.cons (ps_try_kept (tb := fun W D σ H => ∀ pn xe, Takes (X.tr pn xe) W → PassesOwn (model X.prog X.w) X.A X.env xe → WP (X.tr pn xe) body D σ H) (ts := fun a D σ H => ∀ pn, WP (X.suite a pn) (b₀ :: suite) D σ H) hs hf hN hi hln ⟨hg, hdb, .inl gC⟩ takesW
    (fun W pn xe tk hp => ⟨fun pins s σ H D I h => (h pn xe tk hp).go pins s I⟩) (fun a pn => ⟨fun pins s σ H D I h => (h pn).go pins s I⟩)) ?_
  intro pn xe tk hp
  refine hb pn xe hp B F H σ _ L ⟨fun F1 H1 σ1 Γ1 s1 h1 L1 => h1 B F1 H1 σ1 D L1 (ed.weak s1), ed.rt, ed.bk, ed.ct, fun F1 H1 σ1 Γ1 y u d s1 h1 L1 ok => XW.of tk ?_⟩
  obtain ⟨Cy, eu, nCy, _⟩ := id ok
  rcases h1 with ⟨hsub, hsu⟩ | ⟨hsub, hE⟩
  · subst eu
    refine ⟨true, (hsub Cy C nCy xC.ns).1, fun _ a ha pn => ?_, fun z => nomatch z⟩
    obtain ⟨F3, s3, L3, so⟩ := L1.caught ok ha
    have L4 : Lc X.K B F3 _ (σ1.set m (some (.ref a))) (Γ1.set m y.slot) := L3.put m (exn_own y) so
    refine hsu a pn B F3 _ _ _ L4 ⟨fun F5 H5 σ5 Γ5 s5 h5 L5 => ?_, ed.rt, fun F5 H5 σ5 Γ5 s5 h5 L5 => ?_, fun F5 H5 σ5 Γ5 s5 h5 L5 => ?_, fun _ _ _ _ _ _ _ _ z => z.elim⟩
    · exact h5 B F5 H5 _ D (L5.putN m none) (ed.weak ((s1.trans s3).trans s5))
    · exact ed.bk F5 H5 _ _ ((s1.trans s3).trans s5) h5 (L5.putN m none)
    · exact ed.ct F5 H5 _ _ ((s1.trans s3).trans s5) h5 (L5.putN m none)
  · subst eu
    exact ⟨false, (hsub Cy C nCy xC.ns).1, (fun z => nomatch z), fun _ => ed.ex F1 H1 σ1 Γ1 y _ d s1 hE L1 ok⟩
end
end Tw
namespace Tw
open PySem PySem.Spec PyProof.Rows L2 TL
section
variable {X : Cx} {Γ : List Slot} {α β γ : Type} {i : Rep α} {j : Rep β} {l : Rep γ} {pos p p2 : Pos} {e a b c elt tg it : Expr} {es : List Expr} {E : SE} {rest body : List Stmt}
theorem src_zip {xs : List α} {ys : List β} {elts : List Expr} {kk : Nat} {tpos p2 : Pos} (hm : X.mg "zip" = none) (ha : EV X Γ a xs) (hb : EV X Γ b ys) (hg : autoParam (Gl X "zip") aRfl)
    (hs : autoParam (starEach [a, b] X.env = (false, eval a X.env) :: starEach [b] X.env) aStar) (hs2 : autoParam (starEach [b] X.env = (false, eval b X.env) :: starEach [] X.env) aStar) (hpl : autoParam ((backTo p2 (starEach [b] X.env)).any (·.1) = false) aPl) : Src X Γ (.Tuple elts kk tpos) (.Call (.Name "zip" p) [a, b] [] p2) (xs.zip ys) :=
  ⟨_, pi_zip hg hm (pa_cons peW (pa_cons peW pa_nil hs2) hs) hs hpl, fun B F H σ R L q => ha B F H σ _ L fun v F1 H1 e1 r1 => hb B F1 H1 σ _ (L.step e1) fun u F2 H2 e2 r2 => by
    obtain ⟨a1, vs, rfl, h1, p1⟩ := r1
    obtain ⟨a2, ws, rfl, h2, p2⟩ := r2
    have s2 := (L.step (e1.trans e2)).same
    have h1' := e2.ff _ _ h1
    refine ⟨a1, a2, vs, ws, rfl, sq_of s2 h1', sq_of s2 h2, q _ F2 H2 (e1.trans e2) fun F3 H3 s3 s4 => ⟨fun k x hx => ?_, vs, ws, sq_of s4 (s3 _ _ h1'), sq_of s4 (s3 _ _ h2), ?_⟩⟩
    · obtain ⟨hx1, hx2⟩ := List.getElem?_zip_eq_some.mp hx
      obtain ⟨w1, hw1, r1'⟩ := pgetL p1 hx1
      obtain ⟨w2, hw2, r2'⟩ := pgetL p2 hx2
      refine ⟨⟨vs, ws, w1, w2, sq_of s4 (s3 _ _ h1'), sq_of s4 (s3 _ _ h2), hw1, hw2⟩, fun v H4 hy => ?_⟩
      obtain ⟨T, y1, y2, rfl, hT, rfl, g1, g2⟩ := hy
      have z1 : w1 = y1 := Option.some.inj (hw1.symm.trans (g1 vs (sq_of s4 (s3 _ _ h1'))))
      have z2 : w2 = y2 := Option.some.inj (hw2.symm.trans (g2 ws (sq_of s4 (s3 _ _ h2))))
      subst z1 z2
      have ea := Ext.new (o := .tup [w1, w2]) s4 hT
      exact ⟨_, ea, T, w1, w2, rfl, upd_same, i.mono (e2.ff.trans (s3.trans ea.ff)) r1', j.mono (s3.trans ea.ff) r2'⟩
    · rw [List.length_zip, Paired.length p1, Paired.length p2]; omega⟩
noncomputable def enumL {A : Type} (xs : List A) : List (Int × A) := (xs.zipIdx).map fun p => ((p.2 : Int), p.1)
theorem enumL_get {A : Type} {xs : List A} {k : Nat} {x : Int × A} (h : (enumL xs)[k]? = some x) : x.1 = (k : Int) ∧ xs[k]? = some x.2 := by
  unfold enumL at h
  rw [List.getElem?_map, List.getElem?_zipIdx] at h
  cases q : xs[k]? with
  | none => rw [q] at h; cases h
  | some y =>
    rw [q] at h
    have : x = ((k : Int), y) := by simpa using h.symm
    rw [this]
    exact ⟨rfl, rfl⟩
theorem enumL_len {A : Type} {xs : List A} : (enumL xs).length = xs.length := by unfold enumL; simp
theorem src_enum {xs : List α} {elts : List Expr} {kk : Nat} {tpos p2 : Pos} (hm : X.mg "enumerate" = none) (ha : EV X Γ a xs) (hg : autoParam (Gl X "enumerate") aRfl) (hs : autoParam (starEach [a] X.env = [(false, eval a X.env)]) aStar) : Src X Γ (.Tuple elts kk tpos) (.Call (.Name "enumerate" p) [a] [] p2) (enumL xs) :=
  ⟨_, pi_enum hg hm (pa_cons peW pa_nil hs) hs, fun B F H σ R L q => ha B F H σ _ L fun v F1 H1 e1 r1 => by
    obtain ⟨a1, vs, rfl, h1, p1⟩ := r1
    have s2 := (L.step e1).same
    refine ⟨a1, vs, rfl, sq_of s2 h1, q _ F1 H1 e1 fun F3 H3 s3 s4 => ⟨fun k x hx => ?_, vs, sq_of s4 (s3 _ _ h1), ?_⟩⟩
    · obtain ⟨n, y⟩ := x
      obtain ⟨hx1, hx2⟩ := enumL_get hx
      obtain ⟨w1, hw1, r1'⟩ := pgetL p1 hx2
      refine ⟨⟨vs, w1, sq_of s4 (s3 _ _ h1), hw1⟩, fun v H4 hy => ?_⟩
      obtain ⟨T, y1, rfl, hT, rfl, g1⟩ := hy
      have z1 : w1 = y1 := Option.some.inj (hw1.symm.trans (g1 vs (sq_of s4 (s3 _ _ h1))))
      subst z1
      have ea := Ext.new (o := .tup [.int (k : Nat), w1]) s4 hT
      exact ⟨_, ea, T, .int (k : Nat), w1, rfl, upd_same, (show V.int (k : Nat) = V.int n by rw [show n = (k : Int) from hx1]), i.mono (s3.trans ea.ff) r1'⟩
    · rw [enumL_len, Paired.length p1]; exact Nat.le_refl _⟩
theorem en_addL {xs ys : List α} (ha : EV X Γ a xs) (hb : EV X Γ b ys) (hz : xs.length + ys.length ≤ sizeLine) : EN X Γ (.BinOp a .Add b pos) (xs ++ ys) := fun B F H σ Q L q =>
  WE.of (pe_op op_cat peW peW) (ha B F H σ _ L fun v F1 H1 e1 r1 => hb B F1 H1 σ _ (L.step e1) fun u F2 H2 e2 r2 => by
    obtain ⟨a1, vs, rfl, h1, p1⟩ := r1
    obtain ⟨a2, ws, rfl, h2, p2⟩ := r2
    have e12 := e1.trans e2
    have s2 := (L.step e12).same
    refine ⟨a1, a2, vs, ws, rfl, rfl, s2 _ _ (e2.ff _ _ h1), s2 _ _ h2, by rw [Paired.length p1, Paired.length p2]; exact hz, fun p hp => ?_⟩
    exact q p (vs ++ ws) F2 _ (e12.trans (Ext.apart s2 hp)) (e12.hs.free hp) (s2.free hp) upd_same (papp (Paired.mapP p1 fun _ _ z => i.mono e2.ff z) p2))
theorem ev_fst {x : α × β} {k} (ha : EV X Γ a x) (hp : autoParam (PlainIx (.Constant (.int 0) k p)) Tw.aIR2) : EV X Γ (.Subscript a (.Constant (.int 0) k p) pos) x.1 := fun B F H σ Q L q =>
  WE.of (pe_ix ix_tup peW pe_int hp) (ha B F H σ _ L fun v F1 H1 e1 r1 => by
    obtain ⟨ad, u, w, rfl, h1, r1, r2⟩ := r1
    exact ⟨ad, [u, w], 0, u, rfl, rfl, st_of (L.step e1).same h1, rfl, q u F1 H1 e1 r1⟩)
theorem ev_snd {x : α × β} {k} (ha : EV X Γ a x) (hp : autoParam (PlainIx (.Constant (.int 1) k p)) Tw.aIR2) : EV X Γ (.Subscript a (.Constant (.int 1) k p) pos) x.2 := fun B F H σ Q L q =>
  WE.of (pe_ix ix_tup peW pe_int hp) (ha B F H σ _ L fun v F1 H1 e1 r1 => by
    obtain ⟨ad, u, w, rfl, h1, r1, r2⟩ := r1
    exact ⟨ad, [u, w], 1, w, rfl, rfl, st_of (L.step e1).same h1, rfl, q w F1 H1 e1 r2⟩)
noncomputable def ownP {α β : Type} (i : Rep α) (j : Rep β) (a l m : Addr) (xs : List α) (ys : List β) : Own where
  fp := [a, l, m]
  root := .ref a
  ok := fun K F H v => v = .ref a ∧ (a ≠ l ∧ a ≠ m ∧ l ≠ m) ∧ H a = some (.tup [.ref l, .ref m]) ∧ (∃ vs, H l = some (.lst vs) ∧ Paired (fun u x => i.rp K F u x) vs xs) ∧ ∃ ws, H m = some (.lst ws) ∧ Paired (fun u x => j.rp K F u x) ws ys
  stay := fun s k ⟨e, n, h, ⟨vs, h1, p1⟩, ws, h2, p2⟩ => ⟨e, n, k a (by simp) _ h, ⟨vs, k l (by simp) _ h1, Paired.mapP p1 fun _ _ q => i.mono s q⟩, ws, k m (by simp) _ h2, Paired.mapP p2 fun _ _ q => j.mono s q⟩
  there := fun ⟨_, _, h, ⟨vs, h1, _⟩, ws, h2, _⟩ b hb z => by
    have hb' : b = a ∨ b = l ∨ b = m := by simpa using hb
    rcases hb' with rfl | rfl | rfl
    · rw [h] at z; cases z
    · rw [h1] at z; cases z
    · rw [h2] at z; cases z
  rt := fun h => h.1
theorem MA_cons {s : Slot} {A : List Slot} {b : Addr} (h : MA (s :: A) b) : (∃ o, s = .own o ∧ b ∈ o.fp) ∨ MA A b := by
  obtain ⟨o, h1, h2⟩ := h
  rcases List.mem_cons.mp h1 with z | z
  · exact .inl ⟨o, z.symm, h2⟩
  · exact .inr ⟨o, z, h2⟩
theorem Apart.tail {s : Slot} {A : List Slot} (h : Apart A) (hs : ∀ o, s = .own o → ∀ b ∈ o.fp, ¬ MA A b) : Apart (s :: A) := fun x y o1 o2 hxy h1 h2 b hb1 hb2 => by
  cases x with
  | zero =>
    cases y with
    | zero => exact hxy rfl
    | succ y => exact hs o1 (Option.some.inj h1) b hb1 ⟨o2, List.mem_of_getElem? (by simpa using h2), hb2⟩
  | succ x =>
    cases y with
    | zero => exact hs o2 (Option.some.inj h2) b hb2 ⟨o1, List.mem_of_getElem? (by simpa using h1), hb1⟩
    | succ y => exact h x y o1 o2 (fun z => hxy (by rw [z])) (by simpa using h1) (by simpa using h2) b hb1 hb2
theorem st_setO (k : Nat) {n : Str} {P0 : Own → Prop} (he : EX X Γ e (fun r => r = .own P0)) (hr : ∀ o, P0 o → ST X rest (Γ.set k (.own o)) E) (hN : X.N.Nodup) (hi : autoParam (X.N[k]? = some n) aRfl) (hx : autoParam (L2.Loc X.env.scope n) aLoc)
    (hs : autoParam (swapsWith e (some (.Name n p)) pos.line X.env = pure false) aRfl) (hf : autoParam (X.fn n = true ∨ X.env.scope.names.lookup n = some .local) Tw.aFn) : ST X (.Assign [.Name n p] e pos :: rest) Γ E := fun B F H σ D L ed =>
  WP.cons (ps_set hN hi hx peW hs hf) (he B F H σ _ L fun r v F1 H1 er e1 r1 => by
    subst er
    obtain ⟨o, hP0, f, ok1⟩ := r1
    exact hr o hP0 B F1 H1 _ D (L.putO k e1 f ok1) (ed.weak e1.ff))
theorem ev_ofO {P0 : Own → Prop} {x : α} (h : EX X Γ e (fun r => r = .own P0)) (hx : ∀ o, P0 o → Froz o x) : EV X Γ e x := fun B F H σ Q L q =>
  h B F H σ _ L fun r v F1 H1 er e1 r1 => by
    subst er
    obtain ⟨o, hP0, f, ok1⟩ := r1
    have s1 := (L.step e1).same
    have f0 : ∀ b ∈ o.fp, F1 b = none := fun b hb => (f b hb).2
    exact q v (frz F1 H1 o.fp) H1 ⟨e1.ff.trans (frz_le f0), frz_same s1, e1.hh, fun b _ h1 h2 => by
      rw [frz_out (fun hb => h2 (f b hb).1)]; exact e1.nw b h1 h2, fun _ z => z.elim⟩ (hx o hP0 s1 ok1 f0)
end
end Tw
namespace Tw
open PySem PySem.Spec PyProof.Rows L2 TL
noncomputable def clsBody : Stmt → Nat → Stmt
  | .ClassDef _ _ _ body _ _ _ _ _ _ _, j => body.getD j (.Pass ⟨0, 0, 0, 0⟩)
  | st, _ => st
structure XBase (K : PySem.W.Frag) (mg : Str → Option Value) (n : Str) (D : Addr) : Prop where
  g : mg n = some (.ref D)
  sp : PySem.W.specialIn K (.ref D) "__getattribute__" = some (some (.builtin "type.__getattribute__"))
  rd : PySem.W.readsIn K D (.type "type") = true
  fc : PySem.W.findCls K (.ref D) (.type "type") "__init__" = some (.val (.builtin "ValueError.__init__"))
theorem pe_qinit {X : Cx} {n : Str} {D : Addr} {e : Expr} {es : List Expr} {ta : TA} {p1 p2 pos : Pos} {pl : Sem Bool} (T : XBase X.K X.mg n D) (ha : PA X (e :: es) ta) (hg : autoParam (Gl X n) aRfl) (hd : autoParam ((n == ("__debug__" : Str)) = false) aDec)
    (hc : autoParam (eval (.Call (.Attribute (.Name n p1) "__init__" p2) (e :: es) [] pos) X.env = (do
      let ov ← eval (.Name n p1) X.env
      standAt p2.atName
      let (f, first) ← holding [ov] (getMethod ov "__init__" pl)
      callWith pos f first (backTo pos (starEach (e :: es) X.env)) (backToKw pos (keywordEach [] X.env)))) aRfl)
    (he : autoParam (starEach (e :: es) X.env = (false, eval e X.env) :: starEach es X.env) aStar) (hpl : autoParam ((backTo pos (starEach es X.env)).any (·.1) = false) aPl) :
    PE X (.Call (.Attribute (.Name n p1) "__init__" p2) (e :: es) [] pos) (tVeI X.K ta) := by
  refine ⟨fun pins s σ H Q I h => ?_⟩
  refine PySem.W.methodCall_KW (ld_glob I hg T.g ?_ hd) hc
  refine PySem.W.method_cls I.kIn T.sp (PySem.W.cls_value I.kIn T.rd T.fc (by decide +kernel) ?_)
  show wpAny _ _ (callWith pos (Value.builtin "ValueError.__init__") [] (backTo pos (starEach (e :: es) X.env)) []) _ _ _
  refine PyProof.Rows.callWith_method1 (thn (ha.run pos pins _ σ H _ (I.tok _) h) fun us s1 ⟨vs, H1, I1, r1, a, C, ws, ev, hl, T, ea, q⟩ => ?_) he hpl
  subst ev
  cases r1 with
  | @cons _ u0 _ ur ra rw' =>
    obtain rfl : u0 = Value.ref a := ra
    have hlen : ur.length ≤ sizeLine := by
      rw [← Paired.length rw', sizeLine_eq]
      omega
    exact oinit_ok T I1 ea hlen fun s' J => ⟨.non, H1, J, rfl, q⟩
structure Dx (K : PySem.W.Frag) (n fld qual : Str) (st : Stmt) (ps : List Str) : Prop where
  ex : ∃ C fI fd, PySem.W.nsIn K mainGlobals n = some (some (.ref C)) ∧ OexC K C ∧ PySem.W.findIn K (.ref C) fld = some none ∧ PySem.W.findIn K (.ref C) "__init__" = some (some (.ref fI)) ∧ PySem.W.typeIn K (.ref fI) = some (.type "function") ∧ Fun K "__init__" qual st fI fd ∧ Binds K fd ps []
theorem Dx.fld {K : PySem.W.Frag} {n fld qual : Str} {st : Stmt} {ps : List Str} (D : Dx K n fld qual st ps) : XFld K n fld := fun C h => by
  obtain ⟨C', fI, fd, hC, _, hno, _⟩ := D.ex
  obtain rfl := ns_one hC h
  exact hno
section
variable {P : Program} {w : World} {K : PySem.W.Frag} {mg : Str → Option Value} {base : Heap}
theorem XInit.of {n fld qual : Str} {st : Stmt} {N : List Str} {x y : Str} (D : Dx K n fld qual st [x, y]) (sc : FnScope N [x, y] (defScope st)) (hN : N.length = 2)
    (body : ∀ (C fI : Addr) (T : OexC K C) (hno : PySem.W.findIn K (.ref C) fld = some none) (cdv : Value) (A : Around) (outer : List Env) (s : Shared) (H : Hp) (E : XK) (a : Addr) (v : V) (Q : VK), H a = some (exo a C none) →
      (∀ dx, H dx = none → dx ≠ a → Q .non (upd (upd H dx (exd dx [(fld, v)])) a (exo a C (some dx)))) → WP (cxOf (L2.CX P w) P w K mg base N qual (defScope st) fI cdv A outer s H E) (defBody st) { nx := fun _ H' => Q .non H', rt := Q } [some (.ref a), some v] H) :
    XInit P w K mg base 1 n fld := by
  obtain ⟨C, fI, fd, hC, T, hno, iC, tI, F, hb⟩ := D.ex
  refine ⟨fun C' hC' => ?_⟩
  obtain rfl := ns_one hC hC'
  refine ⟨T, fI, fd, [x, y], iC, tI, hb, F.okX sc (fun vs H Q E ⟨a, v, e, _⟩ => by rw [e]; rfl) (fun cdv A outer s H vs Q E hr h => ?_)⟩
  obtain ⟨a, v, rfl, ha, hq⟩ := h
  refine ⟨_, psW, ?_⟩
  have e1 : L2.start N [V.ref a, v] = [some (.ref a), some v] := by
    unfold L2.start
    rw [hN]
    rfl
  rw [e1]
  exact body C' fI T hno cdv A outer s H E a v Q ha hq
end
section
variable {X : Cx} {Γ : List Slot} {α β γ : Type} {i : Rep α} {j : Rep β} {l : Rep γ} {pos p p2 : Pos} {e a b c elt tg it : Expr} {es : List Expr} {E : SE} {rest body : List Stmt}
theorem o_inS {c : Nat} {z : Tx} : OB X (compareOp .In) ([c] : Tx) z (decide (c ∈ z)) := ob_flat op_in_sign fun F H v u Q s r1 r2 q => ⟨c, sx z, r1, r2, q _ rfl⟩
theorem o_notInS {c : Nat} {z : Tx} : OB X (compareOp .NotIn) ([c] : Tx) z (!decide (c ∈ z)) := ob_flat op_notIn_sign fun F H v u Q s r1 r2 q => ⟨c, sx z, r1, r2, q _ rfl⟩
theorem Lc.freeze {K : PySem.W.Frag} {B : Bs} {F H : Hp} {σ : L2.St} {k : Nat} {o : Own} {x : α} (L : Lc K B F H σ Γ) (hk : Γ[k]? = some (.own o)) (hx : Froz o x) : Lc K B (frz F H o.fp) H σ (Γ.set k (.val i x)) ∧ Same F (frz F H o.fp) := by
  obtain ⟨v, ev, ok, f⟩ := slot_own L hk
  have f0 : ∀ b ∈ o.fp, F b = none := fun b hb => (f b hb).1
  refine ⟨⟨⟨L.ext.ff.trans (frz_le f0), frz_same L.same, L.ext.hh, fun a hm h1 h2 => ?_, L.ext.th⟩, by simp [L.len], fun q t hq => ?_, L.ap.put k rfl⟩, frz_le f0⟩
  · have na : a ∉ o.fp := fun hb => (f a hb).2.elim (fun z => h2 z) hm
    rw [frz_out na]
    exact L.ext.nwM a hm h1 h2
  · rcases get_set_slot hq with ⟨e1, e2, rfl⟩ | ⟨e1, hq'⟩
    · subst e1
      rw [ev]
      exact ⟨v, rfl, hx L.same ok f0⟩
    · have old := L.ok q t hq'
      cases t with
      | no => trivial
      | val i x => obtain ⟨v, e2, r⟩ := old; exact ⟨v, e2, i.mono (frz_le f0) r⟩
      | own o2 =>
        obtain ⟨u, eu, ok2, f2⟩ := old
        exact ⟨u, eu, o2.stay (frz_le f0) (fun _ _ _ h => h) ok2, fun b hb => ⟨by rw [frz_out (fun hb2 => L.ap k q o o2 e1 hk hq' b hb2 hb)]; exact (f2 b hb).1, (f2 b hb).2⟩⟩
theorem st_freeze (k : Nat) {o : Own} {x : α} {sts : List Stmt} (hx : Froz o x) (h : ST X sts (Γ.set k (.val i x)) E) (hk : autoParam (Γ[k]? = some (.own o)) aRfl) : ST X sts Γ E := fun B F H σ D L ed => by
  obtain ⟨L', s⟩ := L.freeze hk hx
  exact h B _ H σ D L' (ed.weak s)
theorem st_setEx (k : Nat) {n : Str} {G : α → Prop} (he : EX X Γ e (fun r => ∃ x, G x ∧ r = .val i x)) (hr : ∀ x, G x → ST X rest (Γ.set k (.val i x)) E) (hN : X.N.Nodup) (hi : autoParam (X.N[k]? = some n) aRfl) (hx : autoParam (L2.Loc X.env.scope n) aLoc)
    (hs : autoParam (swapsWith e (some (.Name n p)) pos.line X.env = pure false) aRfl) (hf : autoParam (X.fn n = true ∨ X.env.scope.names.lookup n = some .local) Tw.aFn) : ST X (.Assign [.Name n p] e pos :: rest) Γ E := fun B F H σ D L ed =>
  WP.cons (ps_set hN hi hx peW hs hf) (he B F H σ _ L fun r v F1 H1 er e1 r1 => by
    obtain ⟨x, hG, rfl⟩ := er
    exact hr x hG B F1 H1 _ D ((L.step e1).putV k r1) (ed.weak e1.ff))
end
set_option genInjectivity true in
structure Why where
  w : Tx
  ns : List Int
  deriving DecidableEq
noncomputable instance repWhy : Rep Why := ⟨fun _ H v x => ∃ a, v = .ref a ∧ H a = some (.tup (.str (sx x.w) :: x.ns.map V.int)), fun s ⟨a, e, h⟩ => ⟨a, e, s _ _ h⟩⟩
theorem dpInts {K : PySem.W.Frag} {F : Hp} : ∀ ns : List Int, DpAll K F (ns.map V.int) (ns.map PyData.int)
  | [] => .nil
  | n :: ns => .cons (.int n) (dpInts ns)
theorem layInts : ∀ ns : List Int, PyData.canLayAll0 (ns.map PyData.int) = true
  | [] => by rw [List.map_nil, PyData.canLayAll0]
  | n :: ns => by rw [List.map_cons, PyData.canLayAll0, PyData.canLay0, layInts ns]; rfl
theorem depInts : ∀ ns : List Int, PyData.depthAll (ns.map PyData.int) = 0
  | [] => by rw [List.map_nil, PyData.depthAll]
  | n :: ns => by rw [List.map_cons, PyData.depthAll, depInts ns]; simp [PyData.depth]
noncomputable abbrev instDatTx : Dat (List Nat) := inferInstance
noncomputable instance : Dat Why := ⟨fun x => .tuple (.str (sx x.w) :: x.ns.map PyData.int), fun x => TxOk x.w, 1, fun {K F v x} ⟨a, e, h⟩ => by subst e; exact .tup (.inl (.inl h)) (.cons (.str _) (dpInts _)),
  fun {x} h => by
    rw [PyData.canLay0, PyData.canLayAll0, layInts]
    have := (instDatTx).lay (x := x.w) h
    show (PyData.canLay0 (.str (sx x.w)) && true) = true
    rw [show PyData.canLay0 (.str (sx x.w)) = true from this]; rfl,
  fun x => by rw [PyData.depth, PyData.depthAll, depInts]; simp [PyData.depth], fun x y => by
    rw [PyData.eqv, PyData.eqvAll]
    have h1 := (instDatTx).eqv x.w y.w
    have h2 := eqvAll (α := Int) x.ns y.ns
    rw [show PyData.eqv (.str (sx x.w)) (.str (sx y.w)) = decide (x.w = y.w) from h1, show PyData.eqvAll (x.ns.map PyData.int) (y.ns.map PyData.int) = decide (x.ns = y.ns) from h2, ← Bool.decide_and]
    exact decide_eq_decide.mpr (by cases x; cases y; simp)⟩
noncomputable instance : Ty Why := ⟨"tuple", fun {_ _ _ v x} s h => by obtain ⟨a, rfl, h⟩ := h; exact .base (.tup (s _ _ h))⟩
noncomputable instance : NonN Why := ⟨fun h z => by obtain ⟨a, rfl, _⟩ := h; cases z⟩
section
variable {X : Cx} {Γ : List Slot} {pos p p2 : Pos} {a : Expr} {es : List Expr}
theorem ev_why {x1} {w : Tx} {ns : List Int} (ha : EV X Γ a w) (hs : EAs X Γ es ns) (hz : ns.length ≤ 999 := by simp) (hst : autoParam (starEach (a :: es) X.env = (false, eval a X.env) :: starEach es X.env) aStar) : EV X Γ (.Tuple (a :: es) x1 pos) (Why.mk w ns) := fun B F H σ Q L q =>
  WE.of (pe_tup (pa_cons peW paW hst)) (ha B F H σ _ L fun v F1 H1 e1 r1 => hs B F1 H1 σ _ (L.step e1) fun vs F2 H2 e2 r2 => ⟨by rw [List.length_cons, Paired.length r2]; exact sl_small (by omega), fun p hp => by
    have e12 := e1.trans e2
    have ea := Ext.new (o := .tup (v :: vs)) (L.step e12).same hp
    obtain rfl : v = .str (sx w) := r1
    have hv := Rps.ints r2
    subst hv
    exact q (.ref p) _ _ (e12.trans ea) ⟨p, rfl, upd_same⟩⟩)
end
end Tw
namespace Tw
open PySem PySem.Spec PyProof.Rows L2 TL
section
variable {K : PySem.W.Frag} {B : Bs} {F H F' H' : Hp} {σ : L2.St} {Γ : List Slot} {M : Addr → Prop}
theorem Lc.after (L : Lc K B F H σ Γ) (e : ExtM M F H F' H') {k : Nat} {o : Own} (hg : Γ[k]? = some (.own o)) (hM : ∀ b, M b → b ∈ o.fp) : Lc K B F' H' σ (Γ.set k .no) := by
  obtain ⟨v, ev, ok, f⟩ := slot_own L hg
  have here : ∀ b u, ¬ B.M b → B.H b = some u → ¬ M b := fun b u nb q m => (f b (hM b m)).2.elim (fun z => by rw [z] at q; cases q) nb
  refine ⟨⟨L.ext.ff.trans e.ff, e.fh, fun b u nb q => e.hh b u (here b u nb q) (L.ext.hh b u nb q), fun b nb h1 h2 => ?_, fun b hb h => ?_⟩, by simp [L.len], fun q t hq => ?_, L.ap.put k rfl⟩
  · cases q : B.H b with
    | none => exact absurd q h2
    | some u => exact e.nwM b (here b u nb q) (L.ext.nwM b nb h1 h2) (by rw [L.ext.hh b u nb q]; exact fun z => nomatch z)
  · have := L.ext.th b hb h
    by_cases m : M b
    · exact e.th b m this
    · cases q : H b with
      | none => exact absurd q this
      | some u => rw [e.hh b u m q]; exact fun z => nomatch z
  · rcases get_set_slot hq with ⟨_, _, rfl⟩ | ⟨e1, hq'⟩
    · trivial
    · have old := L.ok q t hq'
      cases t with
      | no => trivial
      | val i x => obtain ⟨v, e2, r⟩ := old; exact ⟨v, e2, i.mono e.ff r⟩
      | own o2 =>
        obtain ⟨u, eu, ok2, f2⟩ := old
        have nM : ∀ b ∈ o2.fp, ¬ M b := fun b hb m => L.ap k q o o2 e1 hg hq' b (hM b m) hb
        exact ⟨u, eu, o2.stay e.ff (fun b hb w z => e.hh b w (nM b hb) z) ok2, fun b hb => ⟨e.nwM b (nM b hb) (f2 b hb).1 (o2.there ok2 b hb), (f2 b hb).2⟩⟩
theorem Lc.back (L : Lc K B F H σ Γ) (e : ExtM M F H F' H') {k : Nat} {o o' : Own} (hg : Γ[k]? = some (.own o)) (hM : ∀ b, M b → b ∈ o.fp) (ok' : o'.ok K F' H' o'.root) (f' : ∀ b ∈ o'.fp, (H b = none ∨ M b) ∧ F' b = none) (hr : o'.root = o.root) : Lc K B F' H' σ (Γ.set k (.own o')) := by
  have L1 := L.after e hg hM
  obtain ⟨v, ev, ok, f⟩ := slot_own L hg
  have er : v = o.root := o.rt ok
  refine ⟨L1.ext, by simp [L.len], fun q t hq => ?_, L.ap.putO k fun j o2 hj h b hb => ?_⟩
  · rcases get_set_slot hq with ⟨e1, e2, rfl⟩ | ⟨e1, hq'⟩
    · subst e1
      rw [ev]
      refine ⟨v, rfl, by rw [er, ← hr]; exact ok', fun b hb => ⟨(f' b hb).2, ?_⟩⟩
      rcases (f' b hb).1 with z | m
      · exact L.nw z
      · exact (f b (hM b m)).2
    · exact L1.ok q t (by rw [List.getElem?_set_ne e1]; exact hq')
  · rcases (f' b hb).1 with z | m
    · exact L.ne_own z h
    · exact L.ap k j o o2 hj hg h b (hM b m)
end
noncomputable def EG (X : Cx) (Γ : List Slot) (e : Expr) (P : Ret → List Slot → Prop) (R : Exn → List Slot → Prop) : Prop :=
  ∀ B F H σ Q, Lc X.K B F H σ Γ → (∀ r v F' H' Γ', P r Γ' → Same F F' → Lc X.K B F' H' σ Γ' → ROk X.K (fun b => B.nw b ∧ Free Γ' b) F' H' v r → Q v H') →
    (∀ x u d F' H' Γ', R x Γ' → Same F F' → Lc X.K B F' H' σ Γ' → XOk X.K (fun b => B.nw b ∧ Free Γ' b) F' H' u d x → XW X u d σ H') → WE X e σ H Q
noncomputable def EAb (X : Cx) (Γ : List Slot) (es : List Expr) (A : List Slot) : Prop :=
  ∀ B F H σ Q, Lc X.K B F H σ Γ → (∀ vs F' H', Ext F H F' H' → VsOkO X.K F' H' vs A → Q vs H') → WA X es σ H Q
noncomputable def noOwn (A : List Slot) : Bool := A.all fun s => !s.isOwn
theorem noOwn_no {A : List Slot} (h : noOwn A = true) (o : Own) : Slot.own o ∉ A := fun m => by
  have := (List.all_eq_true.mp h) _ m
  cases this
theorem noOwn_ma {A : List Slot} (h : noOwn A = true) {b : Addr} (m : MA A b) : False := by
  obtain ⟨o, h1, _⟩ := m
  exact noOwn_no h o h1
theorem apart_one {o : Own} {A : List Slot} (h : noOwn A = true) : Apart (.own o :: A) := Apart.tail (fun i j o1 o2 _ h1 _ => absurd (List.mem_of_getElem? h1) (noOwn_no h o1)) fun _ _ _ _ m => noOwn_ma h m
theorem ma_one {o : Own} {A : List Slot} (h : noOwn A = true) {b : Addr} (m : MA (.own o :: A) b) : b ∈ o.fp := by
  rcases MA_cons m with ⟨o', z, hb⟩ | m
  · cases z; exact hb
  · exact (noOwn_ma h m).elim
section
variable {X : Cx} {Γ : List Slot} {α β γ : Type} {i : Rep α} {j : Rep β} {pos p p2 : Pos} {e a b c : Expr} {es : List Expr} {E : SE} {rest body : List Stmt}
theorem eab_nil : EAb X Γ [] [] := fun B F H σ Q L q => WA.of pa_nil (q [] F H (Ext.refl L.same) trivial)
theorem VsOkO.step {F H F' H' : Hp} (e : Ext F H F' H') : ∀ {vs : List V} {A : List Slot}, VsOkO X.K F H vs A → VsOkO X.K F' H' vs A
  | [], [], _ => trivial
  | v :: vs, .val i x :: A, h => ⟨i.mono e.ff h.1, VsOkO.step e h.2⟩
  | v :: vs, .own o :: A, h => ⟨o.stay e.ff (fun b _ u q => e.hs _ _ q) h.1, fun b hb => e.nw b (h.2.1 b hb) (o.there h.1 b hb), VsOkO.step e h.2.2⟩
  | [], _ :: _, h => h.elim
  | _ :: _, [], h => h.elim
  | _ :: _, .no :: _, h => h.elim
theorem eab_v {x : α} {A : List Slot} (h : EV X Γ e x) (hr : EAb X Γ es A) (hs : autoParam (starEach (e :: es) X.env = (false, eval e X.env) :: starEach es X.env) aStar) : EAb X Γ (e :: es) (.val i x :: A) := fun B F H σ Q L q =>
  WA.of (pa_cons peW paW hs) (h B F H σ _ L fun v F1 H1 e1 r1 => hr B F1 H1 σ _ (L.step e1) fun vs F2 H2 e2 ok => q (v :: vs) F2 H2 (e1.trans e2) ⟨i.mono e2.ff r1, ok⟩)
theorem eab_o (k : Nat) {n : Str} {o : Own} {A : List Slot} (hr : EAb X Γ es A) (hg : autoParam (Γ[k]? = some (.own o)) aRfl) (hN : autoParam (X.N[k]? = some n) aRfl) (hv : autoParam (Vis X.env.scope n) aVis) (hd : autoParam ((n == ("__debug__" : Str)) = false) aDec)
    (hcd : autoParam ((n == ("__classdict__" : Str)) = false) aDec) (hs : autoParam (starEach (.Name n p :: es) X.env = (false, eval (.Name n p) X.env) :: starEach es X.env) aStar) : EAb X Γ (.Name n p :: es) (.own o :: A) := fun B F H σ Q L q => by
  obtain ⟨v, ev, ok, f⟩ := slot_own L hg
  refine WA.of (pa_cons (pe_var hN hv hd hcd) paW hs) ⟨v, ev, hr B F H σ _ L fun vs F2 H2 e2 ok2 => q (v :: vs) F2 H2 e2 ⟨o.stay e2.ff (fun b _ u z => e2.hs _ _ z) ok, fun b hb => e2.nw b (f b hb).1 (o.there ok b hb), ok2⟩⟩
theorem borrow_rets {k : Nat} {o : Own} {A : List Slot} {B : Bs} {F H F1 H1 : Hp} {σ : L2.St} {Q : VK} {P : Ret → List Slot → Prop} {G : α → Own → Prop} (hg : Γ[k]? = some (.own o)) (L : Lc X.K B F H σ Γ) (e1 : Ext F H F1 H1) (hma : ∀ b, MA A b → b ∈ o.fp)
    (hG : ∀ x o', G x o' → o'.root = o.root) (hP : ∀ x o', G x o' → P (.val i x) (Γ.set k (.own o')))
    (q : ∀ r v F' H' Γ', P r Γ' → Same F F' → Lc X.K B F' H' σ Γ' → ROk X.K (fun b => B.nw b ∧ Free Γ' b) F' H' v r → Q v H') {x : α} {o' : Own} (hx : G x o') :
    ∀ v F' H', ExtM (MA A) F1 H1 F' H' → ROk X.K (Bs.nw ⟨F1, H1, MA A⟩) F' H' v (.chg i x [o']) → Q v H' := fun v F2 H2 e2 ok => by
  obtain ⟨r, f, _⟩ := ok
  obtain ⟨ok', f'⟩ := f o' (List.mem_singleton.mpr rfl)
  exact q (.val i x) v F2 H2 (Γ.set k (.own o')) (hP x o' hx) (e1.ff.trans e2.ff) ((L.step e1).back e2 hg hma ok' (fun b hb => f' b hb) (hG x o' hx)) r
theorem borrow_exns {k : Nat} {o : Own} {A : List Slot} {B : Bs} {F H F1 H1 : Hp} {σ : L2.St} {R : Exn → List Slot → Prop} (hg : Γ[k]? = some (.own o)) (L : Lc X.K B F H σ Γ) (e1 : Ext F H F1 H1) (hma : ∀ b, MA A b → b ∈ o.fp)
    (z : ∀ x u d F' H' Γ', R x Γ' → Same F F' → Lc X.K B F' H' σ Γ' → XOk X.K (fun b => B.nw b ∧ Free Γ' b) F' H' u d x → XW X u d σ H') {x : Exn} (hx : R x (Γ.set k .no)) :
    ∀ u d F' H', ExtM (MA A) F1 H1 F' H' → XOk X.K (Bs.nw ⟨F1, H1, MA A⟩) F' H' u d x → XW X u d σ H' := fun u d F2 H2 e2 ok => by
  have L1 := L.step e1
  have L2 := L1.after e2 hg hma
  obtain ⟨_, _, _, fo⟩ := slot_own L1 hg
  refine z x u d F2 H2 (Γ.set k .no) hx (e1.ff.trans e2.ff) L2 (ok.imp fun b h => ⟨?_, fun q o2 hq => ?_⟩)
  · exact h.elim (fun w => L1.nw w) fun m => (fo b (hma b m)).2
  · rcases get_set_slot hq with ⟨_, _, w⟩ | ⟨ne, hq'⟩
    · cases w
    · exact h.elim (fun w => L1.ne_own w hq') fun m => L1.ap k q o o2 ne hg hq' b (hma b m)
theorem eg_call (k : Nat) {n : Str} {kk : Nat} {ps : List Str} {S : Spec} {o : Own} {A : List Slot} {P : Ret → List Slot → Prop} {R : Exn → List Slot → Prop} {G : α → Own → Prop} (GH : Has X.prog X.w X.K X.mg X.base kk n ps S) (hr : Room kk X.A) (ha : EAb X Γ (e :: es) (.own o :: A)) (hA : noOwn A = true) (hg : Γ[k]? = some (.own o))
    (hG : ∀ x o', G x o' → o'.root = o.root) (hP : ∀ x o', G x o' → P (.val i x) (Γ.set k (.own o'))) (hS : ∀ P' R', (∀ x o', G x o' → P' (.chg i x [o'])) → (∀ y, R y (Γ.set k .no) → R' y) → S (.own o :: A) P' R') (hgl : autoParam (Gl X n) aRfl) (hd : autoParam ((n == ("__debug__" : Str)) = false) aDec)
    (he : autoParam (starEach (e :: es) X.env = (false, eval e X.env) :: starEach es X.env) aStar) (hpl : autoParam ((backTo pos (starEach es X.env)).any (·.1) = false) aPl) : EG X Γ (.Call (.Name n p) (e :: es) [] pos) P R := fun B F H σ Q L q z => by
  obtain ⟨f, fd, hm, hk, hb, GF⟩ := GH.ex
  refine WE.of (pe_callS (E := fun σ cls d H => XW X cls d σ H) GF hr hgl hm hk hb (fun σ => passAt takesW σ) paW hd he hpl) (ha B F H σ _ L fun vs F1 H1 e1 r1 => ?_)
  exact ⟨F1, _, (L.step e1).same, r1, apart_one hA, hS _ _ (fun x o' hx => borrow_rets hg L e1 (fun b m => ma_one hA m) hG hP q hx) fun y hy => borrow_exns hg L e1 (fun b m => ma_one hA m) z hy⟩
theorem st_dropG {P : Ret → List Slot → Prop} {R : Exn → List Slot → Prop} (he : EG X Γ e P R) (hr : ∀ r Γ', P r Γ' → ST X rest Γ' E) (hR : ∀ x Γ', R x Γ' → E.ex Γ' x) (hs : autoParam (swapsWith e none pos.line X.env = pure false) aRfl) : ST X (.Expr e pos :: rest) Γ E := fun B F H σ D L ed =>
  WP.cons (ps_expr peW hs) (he B F H σ _ L (fun r v F1 H1 Γ1 hP s1 L1 _ => hr r Γ1 hP B F1 H1 σ D L1 (ed.weak s1)) fun x u d F1 H1 Γ1 hx s1 L1 ok => ed.ex F1 H1 σ Γ1 x u d s1 (hR x Γ1 hx) L1 ok)
end
noncomputable def SlotV (K : PySem.W.Frag) (F : Hp) (v : V) : Slot → Prop
  | .val i x => i.rp K F v x
  | _ => False
theorem SlotV.mono {K : PySem.W.Frag} {F F' : Hp} (s : Same F F') {v : V} {t : Slot} (h : SlotV K F v t) : SlotV K F' v t := by
  cases t with
  | val i x => exact i.mono s h
  | no => exact h.elim
  | own o => exact h.elim
noncomputable def FOk (K : PySem.W.Frag) (F : Hp) : List (Str × V) → List (Str × Slot) → Prop
  | [], [] => True
  | p :: fv, q :: fs => p.1 = q.1 ∧ SlotV K F p.2 q.2 ∧ FOk K F fv fs
  | _, _ => False
theorem FOk.mono {K : PySem.W.Frag} {F F' : Hp} (s : Same F F') : ∀ {fv : List (Str × V)} {fs : List (Str × Slot)}, FOk K F fv fs → FOk K F' fv fs
  | [], [], _ => trivial
  | p :: fv, q :: fs, h => ⟨h.1, h.2.1.mono s, FOk.mono s h.2.2⟩
  | [], _ :: _, h => h.elim
  | _ :: _, [], h => h.elim
theorem lookup_ne {A : Type u} {f g : Str} {x : A} {l : List (Str × A)} (h : ¬ f = g) : ((g, x) :: l).lookup f = l.lookup f := by
  have hne : (f == g) = false := by simpa using h
  simp [List.lookup, hne]
theorem lookup_eq {A : Type u} {f : Str} {x : A} {l : List (Str × A)} : ((f, x) :: l).lookup f = some x := by simp [List.lookup]
theorem FOk.get {K : PySem.W.Frag} {F : Hp} {f : Str} {s : Slot} : ∀ {fv : List (Str × V)} {fs : List (Str × Slot)}, FOk K F fv fs → fs.lookup f = some s → ∃ v, fv.lookup f = some v ∧ SlotV K F v s
  | [], [], _, h => by cases h
  | [], _ :: _, h, _ => h.elim
  | _ :: _, [], h, _ => h.elim
  | (g, v) :: fv, (g', t) :: fs, ⟨e, r, tl⟩, h => by
    have e : g = g' := e
    subst e
    by_cases hf : f = g
    · subst hf
      rw [lookup_eq] at h ⊢
      cases h
      exact ⟨v, rfl, r⟩
    · rw [lookup_ne hf] at h ⊢
      exact FOk.get tl h
theorem FOk.no {K : PySem.W.Frag} {F : Hp} {f : Str} : ∀ {fv : List (Str × V)} {fs : List (Str × Slot)}, FOk K F fv fs → fs.lookup f = none → fv.lookup f = none
  | [], [], _, _ => rfl
  | [], _ :: _, h, _ => h.elim
  | _ :: _, [], h, _ => h.elim
  | (g, v) :: fv, (g', t) :: fs, ⟨e, r, tl⟩, h => by
    have e : g = g' := e
    subst e
    by_cases hf : f = g
    · subst hf
      rw [lookup_eq] at h
      cases h
    · rw [lookup_ne hf] at h ⊢
      exact FOk.no tl h
theorem FOk.len {K : PySem.W.Frag} {F : Hp} : ∀ {fv : List (Str × V)} {fs : List (Str × Slot)}, FOk K F fv fs → fv.length = fs.length
  | [], [], _ => rfl
  | _ :: _, _ :: _, h => by rw [List.length_cons, List.length_cons, FOk.len h.2.2]
  | [], _ :: _, h => h.elim
  | _ :: _, [], h => h.elim
theorem FOk.app {K : PySem.W.Frag} {F : Hp} {g : List (Str × V)} {g' : List (Str × Slot)} : ∀ {fv : List (Str × V)} {fs : List (Str × Slot)}, FOk K F fv fs → FOk K F g g' → FOk K F (fv ++ g) (fs ++ g')
  | [], [], _, h => h
  | _ :: _, _ :: _, h, h2 => ⟨h.1, h.2.1, FOk.app h.2.2 h2⟩
  | [], _ :: _, h, _ => h.elim
  | _ :: _, [], h, _ => h.elim
theorem putF_new {f : Str} {v : V} : ∀ {fv : List (Str × V)}, fv.lookup f = none → putF f v fv = fv ++ [(f, v)]
  | [], _ => rfl
  | (g, u) :: fv, h => by
    by_cases hf : f = g
    · subst hf; rw [lookup_eq] at h; cases h
    · rw [lookup_ne hf] at h
      show (if g = f then _ else _) = _
      rw [if_neg (Ne.symm hf), putF_new h]
      rfl
theorem FOk.put {K : PySem.W.Frag} {F : Hp} {f : Str} {v : V} {s : Slot} {fv : List (Str × V)} {fs : List (Str × Slot)} (h : FOk K F fv fs) (hn : fs.lookup f = none) (r : SlotV K F v s) : FOk K F (putF f v fv) (fs ++ [(f, s)]) := by
  rw [putF_new (h.no hn)]
  exact h.app ⟨rfl, r, trivial⟩
noncomputable def ownI (C a dx : Addr) (fs : List (Str × Slot)) : Own where
  fp := [a, dx]
  root := .ref a
  ok := fun K F H v => v = .ref a ∧ a ≠ dx ∧ H dx = some (.own a) ∧ ∃ fv, H a = some (.ins C dx fv) ∧ FOk K F fv fs
  stay := fun s k ⟨e, n, h1, fv, h2, r⟩ => ⟨e, n, k dx (by simp) _ h1, fv, k a (by simp) _ h2, r.mono s⟩
  there := fun ⟨_, _, h1, fv, h2, _⟩ b hb z => by
    have hb' : b = a ∨ b = dx := by simpa using hb
    rcases hb' with rfl | rfl
    · rw [h2] at z; cases z
    · rw [h1] at z; cases z
  rt := fun h => h.1
class Inst (α : Type) where
  cls : α → Str
  flds : α → List (Str × Slot)
noncomputable instance (priority := low) repInst {α : Type} [t : Inst α] : Rep α := ⟨fun K F v x => ∃ a C dx fv, v = .ref a ∧ PySem.W.nsIn K mainGlobals (t.cls x) = some (some (.ref C)) ∧ F a = some (.ins C dx fv) ∧ F dx = some (.own a) ∧ FOk K F fv (t.flds x),
  fun s ⟨a, C, dx, fv, e, n, h1, h2, r⟩ => ⟨a, C, dx, fv, e, n, s _ _ h1, s _ _ h2, r.mono s⟩⟩
theorem frozI {α : Type} [t : Inst α] {C a dx : Addr} {x : α} {K0 : PySem.W.Frag} (hC : ∀ K : PySem.W.Frag, K = K0 → PySem.W.nsIn K mainGlobals (t.cls x) = some (some (.ref C))) {F H : Hp} {v : V} (s : Same F H) (ok : (ownI C a dx (t.flds x)).ok K0 F H v) (f : ∀ b ∈ [a, dx], F b = none) : repInst.rp K0 (frz F H [a, dx]) v x := by
  obtain ⟨e, n, h1, fv, h2, r⟩ := ok
  exact ⟨a, C, dx, fv, e, hC K0 rfl, (frz_in (by simp)).trans h2, (frz_in (by simp)).trans h1, r.mono (frz_le f)⟩
end Tw
namespace Tw
open PySem PySem.Spec PyProof.Rows L2 TL
structure KCls (K : PySem.W.Frag) (n : Str) (C : Addr) : Prop where
  ns : PySem.W.nsIn K mainGlobals n = some (some (.ref C))
  cl : Cls K C
  mks : PySem.W.makesIn K C = true
  kp : PySem.W.keepIn K (.ref C) = true
  ty : PySem.W.typeIn K (.ref C) = some (.type "type")
  ha : PySem.W.findIn K (.ref C) "__class__" = some (some (.builtin "object.__class__"))
  hn : PySem.W.specialIn K (.builtin "object.__class__") "__get__" = some (some (.builtin "getset_descriptor.__get__"))
  ht : PySem.W.takesIn K (.builtin "object.__class__") = some true
  hm : PySem.W.mroIn K C (.type "object") = some true
noncomputable def OC (K : PySem.W.Frag) (mg : Str → Option Value) (n : Str) : Prop := ∃ C, KCls K n C ∧ mg n = some (.ref C)
noncomputable def NoA (K : PySem.W.Frag) (n f : Str) : Prop := ∀ C, PySem.W.nsIn K mainGlobals n = some (some (.ref C)) → NoAttr K C f
noncomputable def OSub (K : PySem.W.Frag) (n m : Str) (b : Bool) : Prop := ∀ C D, PySem.W.nsIn K mainGlobals n = some (some (.ref C)) → PySem.W.nsIn K mainGlobals m = some (some (.ref D)) → PySem.W.kitOne K (.ref C) (.ref D) = some b
theorem OSub.mk {K : PySem.W.Frag} {n m : Str} {b : Bool} {C D : Addr} (a1 : PySem.W.nsIn K mainGlobals n = some (some (.ref C))) (a2 : PySem.W.nsIn K mainGlobals m = some (some (.ref D))) (ht : PySem.W.typeIn K (.ref D) = some (.type "type")) (hd : PySem.W.hasDictIn K D = true)
    (h : PySem.W.subIn K (.ref C) (.ref D) = some b) (hb : C = D → b = true) : OSub K n m b := fun C' D' e1 e2 => by
  obtain rfl := ns_one a1 e1
  obtain rfl := ns_one a2 e2
  exact kitOf ht hd h fun e => hb (Value.ref.inj e)
structure Dm (K : PySem.W.Frag) (n m qual : Str) (st : Stmt) (ps : List Str) : Prop where
  ex : ∃ C f fd, PySem.W.nsIn K mainGlobals n = some (some (.ref C)) ∧ Meth K C m f ∧ Fun K m qual st f fd ∧ Binds K fd ps []
structure HasM (P : Program) (w : World) (K : PySem.W.Frag) (mg : Str → Option Value) (base : Heap) (k : Nat) (n m : Str) (ps : List Str) (S : Spec) : Prop where
  ex : ∀ C, PySem.W.nsIn K mainGlobals n = some (some (.ref C)) → ∃ f fd, Meth K C m f ∧ Binds K fd ps [] ∧ FnOk P w K mg base (L2.CX P w) k f fd ps (spOf K S)
noncomputable abbrev finI (o : Own) (Q : Ret → Prop) (R : Exn → Prop) : SE := ⟨fun Γ => ∃ o', Γ[0]? = some (.own o') ∧ o'.root = o.root ∧ Q (.chg repUnit () [o']), Q, fun _ => False, fun _ => False, fun _ => R⟩
section
variable {P : Program} {w : World} {K : PySem.W.Frag} {mg : Str → Option Value} {base : Heap}
theorem HasM.of {n m qual : Str} {st : Stmt} {N ps : List Str} {k : Nat} {S : Spec} (D : Dm K n m qual st ps) (sc : FnScope N ps (defScope st)) (len : ∀ A Q R, S A Q R → A.length = ps.length)
    (body : ∀ (f : Addr) (cdv : Value) (A : Around) (outer : List Env) (s : Shared) (H : Hp) (E : XK), Room k (A.deeper (envOfC qual (defScope st) s.heap.objs.size f cdv)) → ∀ Γ Q R, S Γ Q R →
      ST (cxOf (L2.CX P w) P w K mg base N qual (defScope st) f cdv A outer s H E) (defBody st) (Γ ++ List.replicate (N.length - ps.length) .no) (finX Q R)) :
    HasM P w K mg base (k + 1) n m ps S := by
  obtain ⟨C0, f, fd, hC0, hM, F, hb⟩ := D.ex
  refine ⟨fun C hC => ⟨f, fd, by obtain rfl := ns_one hC0 hC; exact hM, hb, F.okX sc (fun vs H Q E ⟨F0, A, s, r, ap, h⟩ => ?_) (fun cdv A outer s H vs Q E hr h => ?_)⟩⟩
  · rw [r.len]; exact len _ _ _ h
  · obtain ⟨F0, A0, sm, r, ap, h⟩ := h
    refine ⟨_, psW, ?_⟩
    have hl := len _ _ _ h
    have L0 := lc_start (K := K) sm r ap (N.length - ps.length)
    have L1 : Lc K ⟨F0, H, MA A0⟩ F0 H (L2.start N vs) (A0 ++ List.replicate (N.length - ps.length) .no) := by
      unfold L2.start
      rw [show vs.length = ps.length from r.len.trans hl]
      exact L0
    refine body f cdv A outer s H E hr A0 _ _ h ⟨F0, H, MA A0⟩ F0 H _ _ L1 ⟨fun F' H' σ' Γ' _ hq L => ?_, fun r v F' H' hq ex ok => hq v F' H' ex ok, fun _ _ _ _ _ z => z.elim, fun _ _ _ _ _ z => z.elim, fun F1 H1 σ' Γ' x u d _ hq L ok => ?_⟩
    · exact hq .non F' H' L.ext rfl
    · exact XW.of (L2.takes_of rfl rfl rfl rfl) (hq u d F1 H1 L.ext (ok.imp fun b h => h.1))
theorem HasM.ofI {n m qual : Str} {st : Stmt} {N ps : List Str} {k : Nat} {S : Spec} (D : Dm K n m qual st ps) (sc : FnScope N ps (defScope st)) (len : ∀ A Q R, S A Q R → A.length = ps.length)
    (body : ∀ (f : Addr) (cdv : Value) (A : Around) (outer : List Env) (s : Shared) (H : Hp) (E : XK), Room k (A.deeper (envOfC qual (defScope st) s.heap.objs.size f cdv)) → ∀ Γ Q R, S Γ Q R →
      ∃ o, ST (cxOf (L2.CX P w) P w K mg base N qual (defScope st) f cdv A outer s H E) (defBody st) (Γ ++ List.replicate (N.length - ps.length) .no) (finI o Q R)) :
    HasM P w K mg base (k + 1) n m ps S := by
  obtain ⟨C0, f, fd, hC0, hM, F, hb⟩ := D.ex
  refine ⟨fun C hC => ⟨f, fd, by obtain rfl := ns_one hC0 hC; exact hM, hb, F.okX sc (fun vs H Q E ⟨F0, A, s, r, ap, h⟩ => ?_) (fun cdv A outer s H vs Q E hr h => ?_)⟩⟩
  · rw [r.len]; exact len _ _ _ h
  · obtain ⟨F0, A0, sm, r, ap, h⟩ := h
    refine ⟨_, psW, ?_⟩
    have hl := len _ _ _ h
    have L0 := lc_start (K := K) sm r ap (N.length - ps.length)
    have L1 : Lc K ⟨F0, H, MA A0⟩ F0 H (L2.start N vs) (A0 ++ List.replicate (N.length - ps.length) .no) := by
      unfold L2.start
      rw [show vs.length = ps.length from r.len.trans hl]
      exact L0
    obtain ⟨o, hbody⟩ := body f cdv A outer s H E hr A0 _ _ h
    refine hbody ⟨F0, H, MA A0⟩ F0 H _ _ L1 ⟨fun F' H' σ' Γ' _ hq L => ?_, fun r v F' H' hq ex ok => hq v F' H' ex ok, fun _ _ _ _ _ z => z.elim, fun _ _ _ _ _ z => z.elim, fun F1 H1 σ' Γ' x u d _ hq L ok => ?_⟩
    · obtain ⟨o', hg, hr', hq⟩ := hq
      obtain ⟨v, ev, ok', f'⟩ := slot_own L hg
      refine hq .non F' H' L.ext ⟨rfl, fun o2 h2 => ?_, List.pairwise_singleton _ _⟩
      rw [List.mem_singleton.mp h2]
      exact ⟨by rw [← o'.rt ok']; exact ok', fun b hb => ⟨(f' b hb).2, (f' b hb).1⟩⟩
    · exact XW.of (L2.takes_of rfl rfl rfl rfl) (hq u d F1 H1 L.ext (ok.imp fun b h => h.1))
end
section
variable {X : Cx} {Γ : List Slot} {α β γ : Type} {i : Rep α} {j : Rep β} {pos p p2 : Pos} {e a b c : Expr} {es : List Expr} {E : SE} {rest body : List Stmt}
theorem st_setF (k : Nat) {n f : Str} {C ad dx : Addr} {fs : List (Str × Slot)} {x : α} {p' : Pos} (he : EV X Γ e x) (hr : ST X rest (Γ.set k (.own (ownI C ad dx (fs ++ [(f, .val i x)])))) E) (hc : Cls X.K C) (hn : NoAttr X.K C f) (hnew : fs.lookup f = none) (hz : fs.length < 1000 := by simp)
    (hg : autoParam (Γ[k]? = some (.own (ownI C ad dx fs))) aRfl) (hN : autoParam (X.N[k]? = some n) aRfl) (hv : autoParam (Vis X.env.scope n) aVis) (hd : autoParam ((n == ("__debug__" : Str)) = false) aDec) (hcd : autoParam ((n == ("__classdict__" : Str)) = false) aDec)
    (hs : autoParam (swapsWith e (some (.Attribute (.Name n p) f p')) pos.line X.env = pure false) aRfl) : ST X (.Assign [.Attribute (.Name n p) f p'] e pos :: rest) Γ E := fun B F H σ D L ed => by
  obtain ⟨v, ev, ok, _⟩ := slot_own L hg
  obtain ⟨rfl, _⟩ := ok
  refine WP.cons (ps_fld (pe_var hN hv hd hcd) peW hs) (he B F H σ _ L fun u F1 H1 e1 r1 => ⟨_, ev, ?_⟩)
  have L1 := L.step e1
  obtain ⟨v', ev', ⟨_, nn, h1, fv, h2, r⟩, f1⟩ := slot_own L1 hg
  refine ⟨ad, C, dx, fv, rfl, h2, hc, hn, by rw [r.len]; exact hz, ?_⟩
  refine hr B F1 _ σ D (L1.updO hg ev (fun b u hb q => ?_) (fun b hb => ?_) (fun b hb => .inl hb) ⟨rfl, nn, ?_, putF f u fv, upd_same, r.put hnew r1⟩) (ed.weak e1.ff)
  · rw [upd_ne (fun z => hb (by rw [z]; show ad ∈ [ad, dx]; simp))]; exact q
  · by_cases hba : b = ad
    · rw [hba, upd_same]; exact fun z => nomatch z
    · rw [upd_ne hba]
      have hb' : b = ad ∨ b = dx := by
        have : b ∈ [ad, dx] := hb
        simpa using this
      rcases hb' with rfl | rfl
      · exact absurd rfl hba
      · rw [h1]; exact fun z => nomatch z
  · rw [upd_ne (Ne.symm nn)]; exact h1
theorem ev_fld {α : Type} [t : Inst α] {x : α} {y : β} {n f : Str} (hc : OC X.K X.mg n) (hn : NoA X.K n f) (hx : t.cls x = n) (hf : (t.flds x).lookup f = some (.val j y)) (h : EV X Γ e x) (hb : autoParam (attributeBase e f X.env (eval e X.env) = eval e X.env) aRfl) : EV X Γ (.Attribute e f pos) y := fun B F H σ Q L q =>
  WE.of (pe_fld peW hb) (h B F H σ _ L fun v F1 H1 e1 r1 => by
    obtain ⟨C, kC, gC⟩ := hc
    obtain ⟨ad, C', dx, fv, rfl, hC, h1, h2, r⟩ := r1
    rw [hx] at hC
    obtain rfl := ns_one kC.ns hC
    obtain ⟨v, hv, rv⟩ := r.get hf
    exact ⟨ad, C', dx, fv, v, rfl, (L.step e1).same _ _ h1, kC.cl, hn C' kC.ns, hv, q v F1 H1 e1 rv⟩)
theorem ev_isiI {α : Type} [t : Inst α] {x : α} {n c : Str} {k : Bool} (hm : X.mg "isinstance" = none) (hx : OC X.K X.mg n) (hc : OC X.K X.mg c) (hk : OSub X.K n c k) (hn : t.cls x = n) (h : EV X Γ e x) (hg : autoParam (Gl X "isinstance") aRfl) (hgT : autoParam (Gl X c) aRfl) (hdT : autoParam ((c == ("__debug__" : Str)) = false) aDec)
    (hs : autoParam (starEach [e, .Name c p2] X.env = (false, eval e X.env) :: starEach [.Name c p2] X.env) aStar) (hs2 : autoParam (starEach [.Name c p2] X.env = (false, eval (.Name c p2) X.env) :: starEach [] X.env) aStar) (hpl : autoParam ((backTo pos (starEach [.Name c p2] X.env)).any (·.1) = false) aPl) :
    EV X Γ (.Call (.Name "isinstance" p) [e, .Name c p2] [] pos) k := fun B F H σ Q L q => by
  obtain ⟨D, xD, gD⟩ := hc
  obtain ⟨C, xC, gC⟩ := hx
  refine WE.of (pe_callB call_isi hg hm (by decide +kernel) (pa_cons peW (pa_cons (pe_glob (v := .ref D) hgT gD rfl hdT) pa_nil hs2) hs) (by decide) (by decide) hs hpl) (h B F H σ _ L fun v F1 H1 e1 r1 => ?_)
  obtain ⟨ad, C', dx, fv, rfl, hC, h1, h2, r⟩ := r1
  rw [hn] at hC
  obtain rfl := ns_one xC.ns hC
  exact ⟨.ref ad, .ref D, .ref C', .ref D, k, rfl, .own D, .base (.ins ((L.step e1).same _ _ h1) xC.cl xC.ha xC.hn xC.ht xC.hm), hk C' D xC.ns xD.ns, q _ F1 H1 e1 rfl⟩
theorem run_makeS {CX : CXT} {f C : Addr} {fd : FuncData} {ps : List Str} {sp : Sp} {k : Nat} {EE : XK} {pins : List (Addr × Obj)} {σ : L2.St} {H : Hp} {s : Shared} {Q : VK} {us : List Value} {vs : List V} (M : Mk X.K C f) (F : FnOk X.prog X.w X.K X.mg X.base CX k f fd ps sp) (hr : Room (k + 1) X.A) (hb : Binds X.K fd ps [])
    (hx : PassesAt CX X σ EE) (I : Inv X pins σ H s) (r : Vals vs us)
    (h : ∀ x dx, H x = none → H dx = none → dx ≠ x → sp (.ref x :: vs) (upd (upd H dx (.own x)) x (.ins C dx [])) (fun v H2 => v = .non ∧ Q (.ref x) H2) EE) :
    wpAny (model X.prog X.w) X.A (call (.ref C) us) (EP X pins σ Q) X.xe s := by
  have hq := h (s.heap.objs.size + 1) s.heap.objs.size (I.hok.fresh (Nat.le_succ _)) (I.hok.fresh (Nat.le_refl _)) (Nat.ne_of_lt (Nat.lt_succ_self _))
  have I2 := Inv.made (C := C) I
  have r2 : Vals (V.ref (s.heap.objs.size + 1) :: vs) (Value.ref (s.heap.objs.size + 1) :: us) := .cons rfl r
  have hl : (Value.ref (s.heap.objs.size + 1) :: us).length = ps.length := by
    have e := r2.length
    rw [F.len _ _ _ _ hq] at e
    exact e.symm
  have b := hb _ (Value.ref (s.heap.objs.size + 1) :: us) I2.kIn (by rw [List.append_nil]; exact hl)
  rw [List.append_nil] at b
  refine wpAny_call (make_map (f := f) I.kIn M.makes M.init (beq_iff_eq.mp M.fn) (codeAny_mono (F.run _ X.stack _ _ ⟨Value.ref (s.heap.objs.size + 1) :: us, []⟩ (Value.ref (s.heap.objs.size + 1) :: us) _ _ EE (hr.make C us [])
    (I2.env0.make C us []) b r2 hq) fun r s' hq' => ?_))
  cases r with
  | error e => exact hx pins _ _ e s' I2 hq'
  | ok fl =>
    cases fl with
    | ret u =>
      obtain ⟨v, H', I3, rv, ev, q3⟩ := I2.after hq'
      subst ev
      exact ⟨rv, ⟨V.ref (s.heap.objs.size + 1), H', I3, rfl, q3⟩⟩
    | next => exact False.elim hq'
    | brk => exact False.elim hq'
    | cont => exact False.elim hq'
theorem exx_make {n : Str} {k : Nat} {ps : List Str} {S : Spec} {A : List Slot} {P : Ret → Prop} {R : Exn → Prop} {fs : List (Str × Slot)} (hc : OC X.K X.mg n) (G : HasM X.prog X.w X.K X.mg X.base k n "__init__" ps S) (hr : Room (k + 1) X.A) (ha : EA X Γ (e :: es) A)
    (hS : ∀ C, PySem.W.nsIn X.K mainGlobals n = some (some (.ref C)) → ∀ ad dx, ∀ P' R', (P (.own fun o => ∃ ad dx, o = ownI C ad dx fs) → P' (.chg repUnit () [ownI C ad dx fs])) → (∀ y, R y → R' y) → S (.own (ownI C ad dx []) :: A) P' R') (hg : autoParam (Gl X n) aRfl) (hd : autoParam ((n == ("__debug__" : Str)) = false) aDec)
    (he : autoParam (starEach (e :: es) X.env = (false, eval e X.env) :: starEach es X.env) aStar) (hpl : autoParam ((backTo pos (starEach es X.env)).any (·.1) = false) aPl) : EXX X Γ (.Call (.Name n p) (e :: es) [] pos) P R := fun B F H σ Q L q z => by
  obtain ⟨C, kC, gC⟩ := hc
  obtain ⟨f, fd, hM, hb, GF⟩ := G.ex C kC.ns
  have M : Mk X.K C f := ⟨kC.mks, hM.at_, hM.fn, kC.kp⟩
  refine ⟨fun pins s I => ?_⟩
  refine wpAny_Call_Name_kw (ld_glob I hg gC ?_ hd)
  refine PySem.W.callWith_K (h₀ := X.base) I.ok.mod.kin kC.kp (thn ((ha B F H σ (fun vs H1 => ∃ F1, Ext F H F1 H1 ∧ VsOk X.K F1 vs A) L (fun vs F1 H1 e1 r1 => ⟨F1, e1, r1⟩)).go pos pins s I) fun us s1 ⟨vs, H1, I1, rvs, F1, e1, r1⟩ => ⟨I1.kIn, ?_⟩) he hpl
  refine run_makeS (EE := fun cls d H => XW X cls d σ H) M GF hr hb (passAt takesW σ) I1 rvs fun ad dx had hdx hne => ?_
  have s1' := (L.step e1).same
  have ea : Ext F1 H1 F1 (upd (upd H1 dx (.own ad)) ad (.ins C dx [])) := by
    have x1 := Ext.apart (o := .own ad) s1' hdx
    exact x1.trans (Ext.apart (o := .ins C dx []) x1.fh (by rw [upd_ne (Ne.symm hne)]; exact had))
  have e2 := e1.trans ea
  have nA : noOwn A = true := by
    refine List.all_eq_true.mpr fun t ht => ?_
    cases t with
    | own o => exact absurd ht (r1.no o)
    | no => rfl
    | val i x => rfl
  have maN : ∀ b, MA (.own (ownI C ad dx []) :: A) b → H1 b = none := fun b m => by
    have hb := ma_one nA m
    have hb' : b = ad ∨ b = dx := by
      have : b ∈ [ad, dx] := hb
      simpa using this
    rcases hb' with rfl | rfl
    · exact had
    · exact hdx
  have fN : ∀ b ∈ [ad, dx], F1 b = none := fun b hb => by
    have hb' : b = ad ∨ b = dx := by simpa using hb
    rcases hb' with rfl | rfl
    · exact s1'.free had
    · exact s1'.free hdx
  have toExt : ∀ {F2 H2}, ExtM (MA (.own (ownI C ad dx []) :: A)) F1 (upd (upd H1 dx (.own ad)) ad (.ins C dx [])) F2 H2 → Ext F H F2 H2 := fun {F2 H2} x => e1.trans (ea.thenM x maN)
  have toN : ∀ b, Bs.nw ⟨F1, upd (upd H1 dx (.own ad)) ad (.ins C dx []), MA (.own (ownI C ad dx []) :: A)⟩ b → H b = none := fun b h => h.elim (fun w => e1.hs.free (ea.hs.free w)) fun m => e1.hs.free (maN b m)
  refine ⟨F1, .own (ownI C ad dx []) :: A, ea.fh, ⟨⟨rfl, Ne.symm hne, ?_, [], upd_same, trivial⟩, fN, r1.toO⟩, apart_one nA, hS C kC.ns ad dx _ _ (fun hP v F2 H2 x2 ok => ?_) fun y hy u d F2 H2 x2 ok => ?_⟩
  · rw [upd_ne hne, upd_same]
  · obtain ⟨rv0, fo, _⟩ := ok
    obtain ⟨ok', f'⟩ := fo _ (List.mem_singleton.mpr rfl)
    exact ⟨rv0, q _ (.ref ad) F2 H2 hP (toExt x2) ⟨ownI C ad dx fs, ⟨ad, dx, rfl⟩, fun b hb => ⟨toN b (f' b hb).1, (f' b hb).2⟩, ok'⟩⟩
  · exact z y u d F2 H2 hy (toExt x2) (ok.imp toN)
theorem exx_meth {α : Type} [t : Inst α] {x : α} {n m : Str} {k : Nat} {ps : List Str} {S : Spec} {A : List Slot} {P : Ret → Prop} {R : Exn → Prop} {o : Expr} {apos : Pos} {pl : Sem Bool} (hc : OC X.K X.mg n) (G : HasM X.prog X.w X.K X.mg X.base k n m ps S) (hr : Room k X.A) (hx : t.cls x = n) (hm : (t.flds x).lookup m = none) (ho : EV X Γ o x) (ha : EA X Γ (e :: es) A)
    (hS : ∀ P' R', (∀ r, P r → P' r) → (∀ y, R y → R' y) → S (.val repInst x :: A) P' R') (hst : autoParam (starEach (e :: es) X.env = (false, eval e X.env) :: starEach es X.env) aStar) (hpl : autoParam ((backTo pos (starEach es X.env)).any (·.1) = false) aPl)
    (ht : autoParam (eval (.Call (.Attribute o m apos) (e :: es) [] pos) X.env = (do
      let ov ← eval o X.env
      standAt apos.atName
      let (f, first) ← holding [ov] (getMethod ov m pl)
      callWith pos f first (backTo pos (starEach (e :: es) X.env)) (backToKw pos (keywordEach [] X.env)))) aRfl) : EXX X Γ (.Call (.Attribute o m apos) (e :: es) [] pos) P R := fun B F H σ Q L q z => by
  obtain ⟨C, kC, gC⟩ := hc
  obtain ⟨f, fd, hM, hb, GF⟩ := G.ex C kC.ns
  refine ⟨fun pins s I => ?_⟩
  refine PySem.W.methodCall_KW (pl := pl) (thn ((ho B F H σ (fun v H1 => ∃ F1, Ext F H F1 H1 ∧ repInst.rp X.K F1 v x) L (fun v F1 H1 e1 r1 => ⟨F1, e1, r1⟩)).go pins s I) fun u s1 ⟨v, H1, I1, rv1, F1, e1, r1⟩ => ?_) ht
  obtain ⟨ad, C', dx, fv, rfl, hC, h1, h2, r⟩ := id r1
  rw [hx] at hC
  obtain rfl := ns_one kC.ns hC
  obtain rfl : u = Value.ref ad := rv1
  refine getmeth_ok I1 ((L.step e1).same _ _ h1) kC.cl hM (r.no hm) ?_
  refine PySem.W.callWith_K (first := [.ref ad]) (h₀ := X.base) I.ok.mod.kin hM.kp (thn ((ha B F1 H1 σ (fun vs H2 => ∃ F2, Ext F1 H1 F2 H2 ∧ VsOk X.K F2 vs A) (L.step e1) (fun vs F2 H2 e2 r2 => ⟨F2, e2, r2⟩)).go pos pins s1 I1) fun us s2 ⟨vs, H2, I2, rvs, F2, e2, r2⟩ => ⟨I2.kIn, ?_⟩) hst hpl
  have e12 := e1.trans e2
  have rA : VsOk X.K F2 (.ref ad :: vs) (.val repInst x :: A) := ⟨repInst.mono e2.ff r1, r2⟩
  refine run_fnS (E := fun σ cls d H => XW X cls d σ H) (us := .ref ad :: us) (vs := .ref ad :: vs) GF hr hb (passAt takesW σ) I2 (.cons rfl rvs) ?_
  exact ⟨F2, _, (L.step e12).same, rA.toO, rA.apart, hS _ _ (fun r hr v F3 H3 e3 ok => q r v F3 H3 hr (e12.thenM e3 fun _ m => (rA.ma m).elim) (ok.imp fun b h => e12.hs.free (h.elim id fun m => (rA.ma m).elim))) fun y hy u d F3 H3 e3 ok => z y u d F3 H3 hy (e12.thenM e3 fun _ m => (rA.ma m).elim) (ok.imp fun b h => e12.hs.free (h.elim id fun m => (rA.ma m).elim))⟩
theorem exx_meth0 {α : Type} [t : Inst α] {x : α} {n m : Str} {k : Nat} {ps : List Str} {S : Spec} {P : Ret → Prop} {R : Exn → Prop} {o : Expr} {apos : Pos} {pl : Sem Bool} (hc : OC X.K X.mg n) (G : HasM X.prog X.w X.K X.mg X.base k n m ps S) (hr : Room k X.A) (hx : t.cls x = n) (hm : (t.flds x).lookup m = none) (ho : EV X Γ o x)
    (hS : ∀ P' R', (∀ r, P r → P' r) → (∀ y, R y → R' y) → S [.val repInst x] P' R')
    (ht : autoParam (eval (.Call (.Attribute o m apos) [] [] pos) X.env = (do
      let ov ← eval o X.env
      standAt apos.atName
      let (f, first) ← holding [ov] (getMethod ov m pl)
      callWith pos f first (backTo pos (starEach [] X.env)) (backToKw pos (keywordEach [] X.env)))) aRfl) : EXX X Γ (.Call (.Attribute o m apos) [] [] pos) P R := fun B F H σ Q L q z => by
  obtain ⟨C, kC, gC⟩ := hc
  obtain ⟨f, fd, hM, hb, GF⟩ := G.ex C kC.ns
  refine ⟨fun pins s I => ?_⟩
  refine PySem.W.methodCall_KW (pl := pl) (thn ((ho B F H σ (fun v H1 => ∃ F1, Ext F H F1 H1 ∧ repInst.rp X.K F1 v x) L (fun v F1 H1 e1 r1 => ⟨F1, e1, r1⟩)).go pins s I) fun u s1 ⟨v, H1, I1, rv1, F1, e1, r1⟩ => ?_) ht
  obtain ⟨ad, C', dx, fv, rfl, hC, h1, h2, r⟩ := id r1
  rw [hx] at hC
  obtain rfl := ns_one kC.ns hC
  obtain rfl : u = Value.ref ad := rv1
  refine getmeth_ok I1 ((L.step e1).same _ _ h1) kC.cl hM (r.no hm) ?_
  have rA : VsOk X.K F1 [.ref ad] [.val repInst x] := ⟨r1, trivial⟩
  refine PySem.W.callWith_K0 (first := [.ref ad]) I1.kIn hM.kp (run_fnS (E := fun σ cls d H => XW X cls d σ H) (us := [.ref ad]) (vs := [.ref ad]) GF hr hb (passAt takesW σ) I1 (.cons rfl .nil) ?_)
  exact ⟨F1, _, (L.step e1).same, rA.toO, rA.apart, hS _ _ (fun r hr v F3 H3 e3 ok => q r v F3 H3 hr (e1.thenM e3 fun _ m => (rA.ma m).elim) (ok.imp fun b h => e1.hs.free (h.elim id fun m => (rA.ma m).elim))) fun y hy u d F3 H3 e3 ok => z y u d F3 H3 hy (e1.thenM e3 fun _ m => (rA.ma m).elim) (ok.imp fun b h => e1.hs.free (h.elim id fun m => (rA.ma m).elim))⟩
theorem ex_of_exx {P : Ret → Prop} (h : EXX X Γ e P fun _ => False) : EX X Γ e P := fun B F H σ Q L q => h B F H σ Q L q fun _ _ _ _ _ z => z.elim
noncomputable def CInit (K : PySem.W.Frag) (n : Str) : Prop := ∀ C f, PySem.W.nsIn K mainGlobals n = some (some (.ref C)) → PySem.W.findIn K (.ref C) "__init__" = some (some (.ref f)) →
  PySem.W.specialIn K (.ref C) "__getattribute__" = some (some (.builtin "type.__getattribute__")) ∧ PySem.W.readsIn K C (.type "type") = true ∧ PySem.W.findCls K (.ref C) (.type "type") "__init__" = some (.val (.ref f))
theorem CInit.mk {K : PySem.W.Frag} {n : Str} {C f : Addr} (a : PySem.W.nsIn K mainGlobals n = some (some (.ref C))) (b : PySem.W.findIn K (.ref C) "__init__" = some (some (.ref f))) (c1 : PySem.W.specialIn K (.ref C) "__getattribute__" = some (some (.builtin "type.__getattribute__"))) (c2 : PySem.W.readsIn K C (.type "type") = true)
    (c3 : PySem.W.findCls K (.ref C) (.type "type") "__init__" = some (.val (.ref f))) : CInit K n := fun C' f' e1 e2 => by
  obtain rfl := ns_one a e1
  rw [b] at e2
  cases e2
  exact ⟨c1, c2, c3⟩
theorem eg_cinit (k : Nat) {n : Str} {kk : Nat} {ps : List Str} {S : Spec} {o : Own} {A : List Slot} {P : Ret → List Slot → Prop} {R : Exn → List Slot → Prop} {G : Unit → Own → Prop} {p1 p2 : Pos} {pl : Sem Bool} (hc : OC X.K X.mg n) (hi : CInit X.K n) (GH : HasM X.prog X.w X.K X.mg X.base kk n "__init__" ps S) (hr : Room kk X.A)
    (ha : EAb X Γ (e :: es) (.own o :: A)) (hA : noOwn A = true) (hg : Γ[k]? = some (.own o)) (hG : ∀ x o', G x o' → o'.root = o.root) (hP : ∀ x o', G x o' → P (.val repUnit x) (Γ.set k (.own o'))) (hS : ∀ P' R', (∀ x o', G x o' → P' (.chg repUnit x [o'])) → (∀ y, R y (Γ.set k .no) → R' y) → S (.own o :: A) P' R') (hgl : autoParam (Gl X n) aRfl)
    (hd : autoParam ((n == ("__debug__" : Str)) = false) aDec)
    (ht : autoParam (eval (.Call (.Attribute (.Name n p1) "__init__" p2) (e :: es) [] pos) X.env = (do
      let ov ← eval (.Name n p1) X.env
      standAt p2.atName
      let (f, first) ← holding [ov] (getMethod ov "__init__" pl)
      callWith pos f first (backTo pos (starEach (e :: es) X.env)) (backToKw pos (keywordEach [] X.env)))) aRfl)
    (he : autoParam (starEach (e :: es) X.env = (false, eval e X.env) :: starEach es X.env) aStar) (hpl : autoParam ((backTo pos (starEach es X.env)).any (·.1) = false) aPl) : EG X Γ (.Call (.Attribute (.Name n p1) "__init__" p2) (e :: es) [] pos) P R := fun B F H σ Q L q z => by
  obtain ⟨C, kC, gC⟩ := hc
  obtain ⟨f, fd, hM, hb, GF⟩ := GH.ex C kC.ns
  obtain ⟨i1, i2, i3⟩ := hi C f kC.ns hM.at_
  refine ⟨fun pins s I => ?_⟩
  refine PySem.W.methodCall_KW (ld_glob I hgl gC ?_ hd) ht
  refine PySem.W.method_cls I.kIn i1 (PySem.W.cls_value I.kIn i2 i3 (by rfl) ?_)
  refine PySem.W.callWith_K (first := []) (h₀ := X.base) I.ok.mod.kin hM.kp (thn ((ha B F H σ (fun vs H1 => ∃ F1, Ext F H F1 H1 ∧ VsOkO X.K F1 H1 vs (.own o :: A)) L (fun vs F1 H1 e1 r1 => ⟨F1, e1, r1⟩)).go pos pins _ (I.tok _)) fun us s1 ⟨vs, H1, I1, rvs, F1, e1, r1⟩ => ⟨I1.kIn, ?_⟩) he hpl
  refine run_fnS (E := fun σ cls d H => XW X cls d σ H) GF hr hb (passAt takesW σ) I1 rvs ?_
  exact ⟨F1, _, (L.step e1).same, r1, apart_one hA, hS _ _ (fun x o' hx => borrow_rets hg L e1 (fun b m => ma_one hA m) hG hP q hx) fun y hy => borrow_exns hg L e1 (fun b m => ma_one hA m) z hy⟩
end
end Tw
namespace Tw
open PySem PySem.Spec PyProof.Rows L2 TL
noncomputable def HetOk (K : PySem.W.Frag) (F : Hp) : List V → List Slot → Prop
  | [], [] => True
  | v :: vs, s :: A => SlotV K F v s ∧ HetOk K F vs A
  | _, _ => False
theorem HetOk.mono {K : PySem.W.Frag} {F F' : Hp} (s : Same F F') : ∀ {vs : List V} {A : List Slot}, HetOk K F vs A → HetOk K F' vs A
  | [], [], _ => trivial
  | v :: vs, t :: A, h => ⟨h.1.mono s, HetOk.mono s h.2⟩
  | [], _ :: _, h => h.elim
  | _ :: _, [], h => h.elim
theorem HetOk.len {K : PySem.W.Frag} {F : Hp} : ∀ {vs : List V} {A : List Slot}, HetOk K F vs A → vs.length = A.length
  | [], [], _ => rfl
  | v :: vs, t :: A, h => by rw [List.length_cons, List.length_cons, HetOk.len h.2]
  | [], _ :: _, h => h.elim
  | _ :: _, [], h => h.elim
theorem HetOk.get {K : PySem.W.Frag} {F : Hp} : ∀ {vs : List V} {A : List Slot} {k : Nat} {s : Slot}, HetOk K F vs A → A[k]? = some s → ∃ v, vs[k]? = some v ∧ SlotV K F v s
  | [], [], _, _, _, h => by cases h
  | v :: vs, t :: A, 0, s, h, e => by
    have : t = s := by simpa using e
    subst this
    exact ⟨v, rfl, h.1⟩
  | v :: vs, t :: A, k + 1, s, h, e => by
    obtain ⟨u, hu, r⟩ := HetOk.get (k := k) h.2 (by simpa using e)
    exact ⟨u, by simpa using hu, r⟩
  | [], _ :: _, _, _, h, _ => h.elim
  | _ :: _, [], _, _, h, _ => h.elim
theorem HetOk.set {K : PySem.W.Frag} {F : Hp} {v : V} {s : Slot} (r : SlotV K F v s) : ∀ {vs : List V} {A : List Slot} (k : Nat), HetOk K F vs A → HetOk K F (vs.set k v) (A.set k s)
  | [], [], _, _ => trivial
  | _ :: _, _ :: _, 0, h => ⟨r, h.2⟩
  | _ :: _, _ :: _, k + 1, h => ⟨h.1, HetOk.set r k h.2⟩
  | [], _ :: _, _, h => h.elim
  | _ :: _, [], _, h => h.elim
theorem VsOk.het {K : PySem.W.Frag} {F : Hp} : ∀ {vs : List V} {A : List Slot}, VsOk K F vs A → HetOk K F vs A
  | [], [], _ => trivial
  | v :: vs, .val i x :: A, h => ⟨h.1, VsOk.het h.2⟩
  | [], _ :: _, h => h.elim
  | _ :: _, [], h => h.elim
  | _ :: _, .no :: _, h => h.elim
  | _ :: _, .own _ :: _, h => h.elim
class Het (α : Type) where
  els : α → List Slot
noncomputable instance (priority := low) repHet {α : Type} [t : Het α] : Rep α := ⟨fun K F v x => ∃ a vs, v = .ref a ∧ F a = some (.lst vs) ∧ HetOk K F vs (t.els x), fun s ⟨a, vs, e, h, r⟩ => ⟨a, vs, e, s _ _ h, r.mono s⟩⟩
section
variable {X : Cx} {Γ : List Slot} {α β γ : Type} {i : Rep α} {j : Rep β} {pos p p2 : Pos} {e a b c : Expr} {es : List Expr} {E : SE} {rest body : List Stmt}
theorem st_retO (k : Nat) {n : Str} {o : Own} {P0 : Own → Prop} (hP : E.rt (.own P0)) (ho : P0 o) (hg : autoParam (Γ[k]? = some (.own o)) aRfl) (hN : autoParam (X.N[k]? = some n) aRfl) (hv : autoParam (Vis X.env.scope n) aVis) (hd : autoParam ((n == ("__debug__" : Str)) = false) aDec)
    (hcd : autoParam ((n == ("__classdict__" : Str)) = false) aDec) : ST X (.Return (some (.Name n p)) pos :: rest) Γ E := fun B F H σ D L ed => by
  obtain ⟨v, ev, ok, f⟩ := slot_own L hg
  exact WP.cons (ps_ret (pe_var hN hv hd hcd)) ⟨v, ev, ed.rt (.own P0) v F H hP L.ext ⟨o, ho, fun b hb => ⟨(f b hb).2, (f b hb).1⟩, ok⟩⟩
theorem st_setFR {n f : Str} {p' : Pos} {R : Exn → Prop} (he : EXX X Γ e (fun _ => False) R) (hR : ∀ x, R x → E.ex Γ x) (k : Nat) (hN : autoParam (X.N[k]? = some n) aRfl) (hv : autoParam (Vis X.env.scope n) aVis) (hd : autoParam ((n == ("__debug__" : Str)) = false) aDec) (hcd : autoParam ((n == ("__classdict__" : Str)) = false) aDec)
    (hs : autoParam (swapsWith e (some (.Attribute (.Name n p) f p')) pos.line X.env = pure false) aRfl) : ST X (.Assign [.Attribute (.Name n p) f p'] e pos :: rest) Γ E := fun B F H σ D L ed =>
  WP.cons (ps_fld (pe_var hN hv hd hcd) peW hs) (he B F H σ _ L (fun r v F1 H1 er e1 r1 => er.elim) fun x u d F1 H1 hx e1 ok => ed.exS (Same.refl F) (hR x hx) L e1 ok)
theorem ev_pow {x y : Int} (h : CPow x y) (ha : EV X Γ a x) (hb : EV X Γ b y) : EV X Γ (.BinOp a .Pow b pos) (x ^ y.toNat) := ev_bin (ob_I op_pow h) ha hb
theorem ev_meth0 {α : Type} [t : Inst α] {x : α} {y : β} {n m : Str} {k : Nat} {ps : List Str} {S : Spec} {o : Expr} {apos : Pos} {pl : Sem Bool} (hc : OC X.K X.mg n) (G : HasM X.prog X.w X.K X.mg X.base k n m ps S) (hr : Room k X.A) (hx : t.cls x = n) (hm : (t.flds x).lookup m = none) (ho : EV X Γ o x) (hS : ∀ P' R', P' (.val j y) → S [.val repInst x] P' R')
    (ht : autoParam (eval (.Call (.Attribute o m apos) [] [] pos) X.env = (do
      let ov ← eval o X.env
      standAt apos.atName
      let (f, first) ← holding [ov] (getMethod ov m pl)
      callWith pos f first (backTo pos (starEach [] X.env)) (backToKw pos (keywordEach [] X.env)))) aRfl) : EV X Γ (.Call (.Attribute o m apos) [] [] pos) y :=
  ev_of_ex (ex_of_exx (exx_meth0 hc G hr hx hm ho (fun P' R' h _ => hS P' R' (h _ rfl)) ht))
theorem en_meth0 {α : Type} [t : Inst α] {x : α} {ys : List β} {n m : Str} {k : Nat} {ps : List Str} {S : Spec} {o : Expr} {apos : Pos} {pl : Sem Bool} (hc : OC X.K X.mg n) (G : HasM X.prog X.w X.K X.mg X.base k n m ps S) (hr : Room k X.A) (hx : t.cls x = n) (hm : (t.flds x).lookup m = none) (ho : EV X Γ o x) (hS : ∀ P' R', P' (.new j ys) → S [.val repInst x] P' R')
    (ht : autoParam (eval (.Call (.Attribute o m apos) [] [] pos) X.env = (do
      let ov ← eval o X.env
      standAt apos.atName
      let (f, first) ← holding [ov] (getMethod ov m pl)
      callWith pos f first (backTo pos (starEach [] X.env)) (backToKw pos (keywordEach [] X.env)))) aRfl) : EN X Γ (.Call (.Attribute o m apos) [] [] pos) ys :=
  en_of_ex (ex_of_exx (exx_meth0 hc G hr hx hm ho (fun P' R' h _ => hS P' R' (h _ rfl)) ht))
end
end Tw
namespace Tw
open PySem PySem.Spec PyProof.Rows L2 TL
section
variable {X : Cx} {Γ : List Slot} {α β γ : Type} {i : Rep α} {j : Rep β} {pos p p2 : Pos} {e a b c : Expr} {es : List Expr} {E : SE} {rest body : List Stmt}
theorem exx_makeV {α : Type} [t : Inst α] {x : α} {n : Str} {k : Nat} {ps : List Str} {S : Spec} {A : List Slot} {R : Exn → Prop} (hc : OC X.K X.mg n) (G : HasM X.prog X.w X.K X.mg X.base k n "__init__" ps S) (hr : Room (k + 1) X.A) (hx : t.cls x = n) (ha : EA X Γ (e :: es) A)
    (hS : ∀ C, PySem.W.nsIn X.K mainGlobals n = some (some (.ref C)) → ∀ ad dx, ∀ P' R', P' (.chg repUnit () [ownI C ad dx (t.flds x)]) → (∀ y, R y → R' y) → S (.own (ownI C ad dx []) :: A) P' R') (hg : autoParam (Gl X n) aRfl) (hd : autoParam ((n == ("__debug__" : Str)) = false) aDec)
    (he : autoParam (starEach (e :: es) X.env = (false, eval e X.env) :: starEach es X.env) aStar) (hpl : autoParam ((backTo pos (starEach es X.env)).any (·.1) = false) aPl) : EXX X Γ (.Call (.Name n p) (e :: es) [] pos) (fun r => r = .val repInst x) R := fun B F H σ Q L q z => by
  obtain ⟨C, kC, gC⟩ := id hc
  refine exx_make (P := fun r => r = .own fun o => ∃ ad dx, o = ownI C ad dx (t.flds x)) (R := R) (fs := t.flds x) hc G hr ha (fun C' e' ad dx P' R' h1 h2 => by
    obtain rfl := ns_one kC.ns e'
    exact hS _ e' ad dx P' R' (h1 rfl) h2) hg hd he hpl B F H σ _ L (fun r v F1 H1 er e1 r1 => ?_) z
  subst er
  obtain ⟨o, ⟨ad, dx, rfl⟩, f, ok1⟩ := r1
  have s1 := (L.step e1).same
  have f0 : ∀ b ∈ [ad, dx], F1 b = none := fun b hb => (f b hb).2
  refine q _ v (frz F1 H1 [ad, dx]) H1 rfl ⟨e1.ff.trans (frz_le f0), frz_same s1, e1.hh, fun b _ h1 h2 => by
    rw [frz_out (ps := [ad, dx]) (fun hb => h2 (f b hb).1)]; exact e1.nw b h1 h2, fun _ z => z.elim⟩ ?_
  exact frozI (K0 := X.K) (fun K e => by rw [e, hx]; exact kC.ns) s1 ok1 f0
theorem ev_makeV {α : Type} [t : Inst α] {x : α} {n : Str} {k : Nat} {ps : List Str} {S : Spec} {A : List Slot} (hc : OC X.K X.mg n) (G : HasM X.prog X.w X.K X.mg X.base k n "__init__" ps S) (hr : Room (k + 1) X.A) (hx : t.cls x = n) (ha : EA X Γ (e :: es) A)
    (hS : ∀ C, PySem.W.nsIn X.K mainGlobals n = some (some (.ref C)) → ∀ ad dx, ∀ P' R', P' (.chg repUnit () [ownI C ad dx (t.flds x)]) → S (.own (ownI C ad dx []) :: A) P' R') (hg : autoParam (Gl X n) aRfl) (hd : autoParam ((n == ("__debug__" : Str)) = false) aDec)
    (he : autoParam (starEach (e :: es) X.env = (false, eval e X.env) :: starEach es X.env) aStar) (hpl : autoParam ((backTo pos (starEach es X.env)).any (·.1) = false) aPl) : EV X Γ (.Call (.Name n p) (e :: es) [] pos) x :=
  ev_of_ex (ex_of_exx (exx_makeV (R := fun _ => False) hc G hr hx ha (fun C h ad dx P' R' h1 _ => hS C h ad dx P' R' h1) hg hd he hpl))
theorem st_dropR {R : Exn → Prop} (he : EXX X Γ e (fun _ => False) R) (hR : ∀ x, R x → E.ex Γ x) (hs : autoParam (swapsWith e none pos.line X.env = pure false) aRfl) : ST X (.Expr e pos :: rest) Γ E := fun B F H σ D L ed =>
  WP.cons (ps_expr peW hs) (he B F H σ _ L (fun r v F1 H1 z _ _ => z.elim) fun x u d F1 H1 hx e1 ok => ed.exS (Same.refl F) (hR x hx) L e1 ok)
theorem ev_of_en_aux {B : Bs} {F H F' H' : Hp} {σ : L2.St} {Q : VK} {xs : List α} {v : V} {G : List α → Prop} (hG : G xs) (L : Lc X.K B F H σ Γ) (ex : Ext F H F' H') (r1 : ROk X.K (Nw H) F' H' v (.new i xs)) (q : ∀ (r : Ret) (v : V) (F' H' : Hp), (∃ xs, G xs ∧ r = .val repList xs) → Ext F H F' H' → ROk X.K (Nw H) F' H' v r → Q v H') : Q v H' := by
  obtain ⟨a, vs, rfl, ha, fa, h', p⟩ := r1
  have sm : Same F' (upd F' a (.lst vs)) := fun b u e => by rw [upd_ne (ne_of_none e fa)]; exact e
  refine q (.val repList xs) (.ref a) (upd F' a (.lst vs)) H' ⟨xs, hG, rfl⟩ ⟨ex.ff.trans sm, fun b u e => ?_, ex.hh, fun b _ h1 h2 => ?_, fun _ z => z.elim⟩ ⟨a, vs, rfl, upd_same, Paired.mapP p fun _ _ q => i.mono sm q⟩
  · by_cases hb : b = a
    · subst hb; rw [upd_same] at e; rw [← e]; exact h'
    · rw [upd_ne hb] at e; exact ex.fh _ _ e
  · rw [upd_ne (fun z => by subst z; exact h2 ha)]; exact ex.nw b h1 h2
theorem exv_of_exn {G : List α → Prop} (h : EX X Γ e (fun r => ∃ xs, G xs ∧ r = .new i xs)) : EX X Γ e (fun r => ∃ xs, G xs ∧ r = .val repList xs) := fun B F H σ Q L q =>
  h B F H σ _ L fun r v F1 H1 er e1 r1 => by
    obtain ⟨xs, hG, rfl⟩ := er
    refine ev_of_en_aux hG L e1 r1 q
end
end Tw
namespace Tw
open PySem PySem.Spec PyProof.Rows L2 TL
section
variable {X : Cx} {Γ : List Slot} {α β γ : Type} {i : Rep α} {j : Rep β} {pos p p2 : Pos} {e a b c : Expr} {es : List Expr} {E : SE} {rest body : List Stmt}
theorem eqV_str {x y : Tx} : eqV (.str (sx x)) (.str (sx y)) = decide (x = y) := by
  show decide (sx x = sx y) = _
  exact decide_eq_decide.mpr ⟨fun h => by rw [← tl_sx x, h, tl_sx], fun h => by rw [h]⟩
theorem inV_strs {x : Tx} {ys : List Tx} : inV (.str (sx x)) (ys.map fun t => V.str (sx t)) = decide (x ∈ ys) := by
  induction ys with
  | nil => rfl
  | cons y ys ih =>
    show (eqV _ _ || inV _ _) = _
    rw [ih, eqV_str]
    by_cases h : y = x
    · subst h; simp
    · simp [h, Ne.symm h]
theorem pd_strs {K : PySem.W.Frag} {F : Hp} : ∀ {vs : List V} {ys : List Tx}, Paired (fun u x => repTx.rp K F u x) vs ys → vs = ys.map fun t => V.str (sx t)
  | _, _, .nil => rfl
  | _, _, .cons r p => by
    rw [pd_strs p, List.map_cons]
    congr 1
theorem o_notInLS {x : Tx} {ys : List Tx} : OB X (compareOp .NotIn) x ys (!decide (x ∈ ys)) := fun F H v u Q s r1 r2 q pins s' σ va vb I rv1 rv2 => by
  obtain rfl : v = .str (sx x) := r1
  obtain ⟨ad, vs, rfl, h1, pr⟩ := r2
  obtain rfl := pd_strs pr
  refine op_notIn_seq pins s' σ H _ _ va vb Q I rv1 rv2 ⟨ad, _, rfl, .inl (sq_of s h1), rfl, ?_, ?_⟩
  · rw [List.all_map]; exact List.all_eq_true.mpr fun _ _ => rfl
  · rw [if_pos rfl, inV_strs]
    exact q _ F H (Ext.refl s) rfl
noncomputable def EXA (X : Cx) (Γ : List Slot) (es : List Expr) (R : Exn → Prop) : Prop :=
  ∀ B F H σ, Lc X.K B F H σ Γ → (∀ x u d F' H', R x → Ext F H F' H' → XOk X.K (Nw H) F' H' u d x → XW X u d σ H') → WA X es σ H (fun _ _ => False)
theorem exa_x {R : Exn → Prop} (h : EXX X Γ e (fun _ => False) R) (hs : autoParam (starEach (e :: es) X.env = (false, eval e X.env) :: starEach es X.env) aStar) : EXA X Γ (e :: es) R := fun B F H σ L z =>
  WA.of (pa_cons peW (paW (es := es)) hs) (h B F H σ _ L (fun r v F1 H1 hr _ _ => hr.elim) z)
end
end Tw
namespace Tw
open PySem PySem.Spec PyProof.Rows L2 TL
structure Dic (κ α : Type) where
  l : List (κ × α)
section
variable {κ : Type} [DecidableEq κ] {α : Type}
noncomputable def look (l : List (κ × α)) (k : κ) : Option α := (l.find? fun p => decide (p.1 = k)).map (·.2)
noncomputable def put (l : List (κ × α)) (k : κ) (v : α) : List (κ × α) := if (l.any fun p => decide (p.1 = k)) = true then l.map (fun p => if p.1 = k then (p.1, v) else p) else l ++ [(k, v)]
theorem look_nil {k : κ} : look ([] : List (κ × α)) k = none := rfl
theorem look_pos {p : κ × α} {r : List (κ × α)} {k : κ} (e : p.1 = k) : look (p :: r) k = some p.2 := by simp [look, List.find?_cons, e]
theorem look_neg {p : κ × α} {r : List (κ × α)} {k : κ} (e : ¬ p.1 = k) : look (p :: r) k = look r k := by simp [look, List.find?_cons, e]
theorem look_any (k : κ) : ∀ l : List (κ × α), (l.any fun p => decide (p.1 = k)) = (look l k).isSome
  | [] => rfl
  | p :: r => by
    rw [List.any_cons]
    by_cases e : p.1 = k
    · simp only [look_pos e, decide_eq_true e, Bool.true_or, Option.isSome_some]
    · rw [look_neg e, decide_eq_false e, Bool.false_or]; exact look_any k r
theorem look_map (k j : κ) (y : α) : ∀ l : List (κ × α), look (l.map fun p => if p.1 = k then (p.1, y) else p) j = (look l j).map fun x => if j = k then y else x
  | [] => rfl
  | p :: r => by
    have ih := look_map k j y r
    rw [List.map_cons]
    by_cases h : p.1 = k
    · rw [if_pos h]
      by_cases e : p.1 = j
      · rw [look_pos (p := (p.1, y)) e, look_pos e, Option.map_some, if_pos (e.symm.trans h)]
      · rw [look_neg (p := (p.1, y)) e, look_neg e, ih]
    · rw [if_neg h]
      by_cases e : p.1 = j
      · rw [look_pos e, look_pos e, Option.map_some, if_neg fun z => h (e.trans z)]
      · rw [look_neg e, look_neg e, ih]
theorem look_snoc (k j : κ) (y : α) : ∀ l : List (κ × α), look l k = none → look (l ++ [(k, y)]) j = if j = k then some y else look l j
  | [], _ => by
    rw [List.nil_append]
    by_cases e : k = j
    · rw [if_pos e.symm]; exact look_pos (p := (k, y)) e
    · rw [if_neg fun z => e z.symm]; exact look_neg (p := (k, y)) e
  | p :: r, hn => by
    have hk : ¬ p.1 = k := fun z => by rw [look_pos z] at hn; cases hn
    rw [look_neg hk] at hn
    have ih := look_snoc k j y r hn
    rw [List.cons_append]
    by_cases e : p.1 = j
    · rw [look_pos e, look_pos e, if_neg fun z => hk (e.trans z)]
    · rw [look_neg e, look_neg e, ih]
theorem look_put (l : List (κ × α)) (k j : κ) (y : α) : look (put l k y) j = if j = k then some y else look l j := by
  unfold put
  by_cases a : (l.any fun p => decide (p.1 = k)) = true
  · rw [if_pos a, look_map]
    rw [look_any] at a
    by_cases e : j = k
    · subst e
      obtain ⟨x, hx⟩ := Option.isSome_iff_exists.mp a
      rw [hx, Option.map_some, if_pos rfl]; simp
    · rw [if_neg e]
      cases look l j with
      | none => rfl
      | some x => simp [e]
  · rw [if_neg a]
    refine look_snoc k j y l ?_
    rw [look_any] at a
    cases q : look l k with
    | none => rfl
    | some x => rw [q] at a; exact (a rfl).elim
theorem put_keys {l : List (κ × α)} {k : κ} {v : α} : (put l k v).map (·.1) = if (look l k).isSome then l.map (·.1) else l.map (·.1) ++ [k] := by
  unfold put
  rw [look_any]
  cases (look l k).isSome with
  | true =>
    rw [if_pos rfl, if_pos rfl, List.map_map]
    refine List.map_congr_left fun p _ => ?_
    show (if p.1 = k then (p.1, v) else p).1 = p.1
    split <;> rfl
  | false => rw [if_neg (by decide), if_neg (by decide), List.map_append]; rfl
theorem look_none {l : List (κ × α)} {k : κ} : look l k = none ↔ k ∉ l.map (·.1) := by
  induction l with
  | nil => simp [look_nil]
  | cons p r ih =>
    by_cases e : p.1 = k
    · rw [look_pos e]; simp [e]
    · rw [look_neg e, ih, List.map_cons, List.mem_cons]
      constructor
      · rintro h (z | z)
        · exact e z.symm
        · exact h z
      · exact fun h z => h (.inr z)
theorem put_nodup {l : List (κ × α)} {k : κ} {v : α} (nd : (l.map (·.1)).Nodup) : ((put l k v).map (·.1)).Nodup := by
  rw [put_keys]
  cases h : look l k with
  | some x => exact nd
  | none =>
    show (l.map (·.1) ++ [k]).Nodup
    rw [List.nodup_append]
    refine ⟨nd, List.nodup_cons.mpr ⟨by simp, List.nodup_nil⟩, fun a ha b hb => ?_⟩
    rw [List.mem_singleton] at hb
    subst hb
    exact fun z => look_none.mp h (z ▸ ha)
theorem valV_inj {μ : Type} [DecidableEq μ] {e : κ → μ} (inj : ∀ x y, e x = e y → x = y) (k : κ) : ∀ kvs : List (κ × V), valV (kvs.map fun p => (e p.1, p.2)) (e k) = valV kvs k
  | [] => rfl
  | p :: r => by
    rw [List.map_cons]
    by_cases h : p.1 = k
    · rw [valV_pos (p := (e p.1, p.2)) (congrArg e h), valV_pos h]
    · rw [valV_neg (p := (e p.1, p.2)) fun z => h (inj _ _ z), valV_neg h, valV_inj inj k r]
theorem putK_inj {μ : Type} [DecidableEq μ] {e : κ → μ} (inj : ∀ x y, e x = e y → x = y) (k : κ) (v : V) (kvs : List (κ × V)) : putK (kvs.map fun p => (e p.1, p.2)) (e k) v = (putK kvs k v).map fun p => (e p.1, p.2) := by
  unfold putK
  rw [List.any_map]
  have : (fun p : κ × V => decide (p.1 = k)) = ((fun kv : μ × V => decide (kv.1 = e k)) ∘ fun p : κ × V => (e p.1, p.2)) := by
    funext p
    exact decide_eq_decide.mpr ⟨fun z => congrArg e z, fun z => inj _ _ z⟩
  rw [← this]
  split
  · rw [List.map_map, List.map_map]
    refine List.map_congr_left fun p _ => ?_
    show (if e p.1 = e k then (e p.1, v) else (e p.1, p.2)) = (fun p : κ × V => (e p.1, p.2)) (if p.1 = k then (p.1, v) else p)
    by_cases h : p.1 = k
    · rw [if_pos h, if_pos (congrArg e h)]
    · rw [if_neg h, if_neg fun z => h (inj _ _ z)]
  · rw [List.map_append]; rfl
end
class DKey (κ : Type) [i : Rep κ] [DecidableEq κ] where
  ho : List (κ × V) → HO
  empty : ∀ (X : Cx) (pos : Pos), PE X (.Dict [] [] pos) (fun _ H Q => ∀ p, H p = none → Q (.ref p) (upd H p (ho [])))
  get : ∀ {K : PySem.W.Frag} {F H : Hp} {a : Addr} {v : V} {x : κ} {kvs : List (κ × V)}, Same F H → H a = some (ho kvs) → i.rp K F v x → DGet H a v (valV kvs x)
  put : ∀ {K : PySem.W.Frag} {F H : Hp} {a : Addr} {y : V} {x : κ} {kvs : List (κ × V)} {v : V}, Same F H → H a = some (ho kvs) → i.rp K F y x → kvs.length < sizeLine → DPut H a y v (upd H a (ho (putK kvs x v)))
  isD : ∀ {H : Hp} {a : Addr} {kvs : List (κ × V)}, H a = some (ho kvs) → IsD H a
noncomputable def hoK {κ : Type} (e : κ → Key) (kvs : List (κ × V)) : HO := .dK (kvs.map fun p => (e p.1, p.2))
noncomputable def hoT {κ : Type} (e : κ → List Key) (kvs : List (κ × V)) : HO := .dT (kvs.map fun p => (e p.1, p.2))
noncomputable def DKey.ofK {κ : Type} [i : Rep κ] [DecidableEq κ] (e : κ → Key) (inj : ∀ x y, e x = e y → x = y) (h : ∀ {K F v x}, i.rp K F v x → v = kV (e x)) : DKey κ :=
  ⟨hoK e, fun X pos => pe_dnewK, fun {K F H a v x kvs} s ha r => by
    rw [h r, ← valV_inj inj x kvs]; exact DGet.k ha, fun {K F H a y x kvs v} s ha r hz => by
    rw [h r]
    unfold hoK
    rw [← putK_inj inj]
    exact DPut.k ha (by rw [List.length_map]; exact hz), fun ha => .inl ⟨_, .inl ha⟩⟩
noncomputable def DKey.ofT {κ : Type} [i : Rep κ] [DecidableEq κ] (e : κ → List Key) (inj : ∀ x y, e x = e y → x = y) (h : ∀ {K F v x}, i.rp K F v x → ∃ b, v = .ref b ∧ F b = some (.tup ((e x).map kV))) : DKey κ :=
  ⟨hoT e, fun X pos => pe_dnewT, fun {K F H a v x kvs} s ha r => by
    obtain ⟨b, rfl, hb⟩ := h r
    rw [← valV_inj inj x kvs]; exact DGet.t ha (s _ _ hb), fun {K F H a y x kvs v} s ha r hz => by
    obtain ⟨b, rfl, hb⟩ := h r
    unfold hoT
    rw [← putK_inj inj]
    exact DPut.t ha (s _ _ hb) (by rw [List.length_map]; exact hz), fun ha => .inr ⟨_, .inl ha⟩⟩
theorem inr_sx (x y : Tx) (h : (Sum.inr (sx x) : Key) = Sum.inr (sx y)) : x = y := sx_inj (Sum.inr.inj h)
noncomputable instance dkTx : DKey Tx := .ofK (fun x => .inr (sx x)) inr_sx fun {_ _ v x} h => h
noncomputable instance dkInt : DKey Int := .ofK (fun x => .inl x) (fun _ _ h => Sum.inl.inj h) fun {_ _ v x} h => h
class KPart (α : Type) [i : Rep α] where
  en : α → Key
  inj : ∀ x y, en x = en y → x = y
  rp : ∀ {K F v x}, i.rp K F v x → v = kV (en x)
noncomputable instance : KPart Tx := ⟨fun x => .inr (sx x), inr_sx, fun {_ _ v x} h => h⟩
noncomputable instance : KPart Int := ⟨fun x => .inl x, fun _ _ h => Sum.inl.inj h, fun {_ _ v x} h => h⟩
noncomputable instance dkPair {α β : Type} [i : Rep α] [j : Rep β] [DecidableEq α] [DecidableEq β] [p : KPart α] [q : KPart β] : DKey (α × β) :=
  .ofT (fun x => [p.en x.1, q.en x.2]) (fun x y h => by
    obtain ⟨h1, h2⟩ := List.cons.inj h
    obtain ⟨h2, _⟩ := List.cons.inj h2
    exact Prod.ext (p.inj _ _ h1) (q.inj _ _ h2)) fun {K F v x} ⟨a, u, w, e, h, r1, r2⟩ => ⟨a, e, by rw [h, p.rp r1, q.rp r2]; rfl⟩
noncomputable instance dkTup {α : Type} [i : Rep α] [DecidableEq α] [p : KPart α] : DKey (Tup α) :=
  .ofT (fun x => x.l.map p.en) (fun x y h => by
    cases x; cases y
    have : ∀ l m : List α, l.map p.en = m.map p.en → l = m := by
      intro l
      induction l with
      | nil => intro m h; cases m with | nil => rfl | cons _ _ => cases h
      | cons a l ih =>
        intro m h
        cases m with
        | nil => cases h
        | cons b m =>
          obtain ⟨h1, h2⟩ := List.cons.inj h
          rw [p.inj _ _ h1, ih m h2]
    exact congrArg Tup.mk (this _ _ h)) fun {K F v x} ⟨a, vs, e, h, pr⟩ => ⟨a, e, by
      rw [h]
      have : ∀ {vs : List V} {l : List α}, Paired (fun u x => i.rp K F u x) vs l → vs = (l.map p.en).map kV := by
        intro vs l h
        induction h with
        | nil => rfl
        | cons r _ ih => rw [List.map_cons, List.map_cons, ← ih, p.rp r]
      rw [this pr]⟩
section
variable {κ α : Type} [ik : Rep κ] [DecidableEq κ] [dk : DKey κ] {i : Rep α}
noncomputable abbrev DRel (i : Rep α) (K : PySem.W.Frag) (F : Hp) (kvs : List (κ × V)) (l : List (κ × α)) : Prop := Paired (fun (p : κ × V) (q : κ × α) => p.1 = q.1 ∧ i.rp K F p.2 q.2) kvs l
theorem DRel.val {K : PySem.W.Frag} {F : Hp} {k : κ} : ∀ {kvs : List (κ × V)} {l : List (κ × α)}, DRel i K F kvs l → (look l k = none → valV kvs k = none) ∧ ∀ y, look l k = some y → ∃ v, valV kvs k = some v ∧ i.rp K F v y
  | _, _, .nil => ⟨fun _ => rfl, fun y h => by cases h⟩
  | _, _, .cons (a := p) (b := q) r t => by
    have ih := DRel.val (k := k) t
    by_cases e : p.1 = k
    · rw [look_pos (r.1.symm.trans e), valV_pos e]
      exact ⟨fun z => (nomatch z), fun y h => ⟨_, rfl, by cases Option.some.inj h; exact r.2⟩⟩
    · rw [look_neg fun z => e (r.1.trans z), valV_neg e]
      exact ih
theorem DRel.put {K : PySem.W.Frag} {F : Hp} {k : κ} {v : V} {y : α} {kvs : List (κ × V)} {l : List (κ × α)} (h : DRel i K F kvs l) (r : i.rp K F v y) : DRel i K F (putK kvs k v) (put l k y) := by
  have e1 : (kvs.any fun kv => decide (kv.1 = k)) = l.any fun p => decide (p.1 = k) := by
    clear r
    induction h with
    | nil => rfl
    | cons r _ ih => rw [List.any_cons, List.any_cons, ih, r.1]
  unfold putK Tw.put
  rw [e1]
  split
  · clear e1
    have go : ∀ {ks : List (κ × V)} {ls : List (κ × α)}, DRel i K F ks ls → DRel i K F (ks.map fun kv => if kv.1 = k then (kv.1, v) else kv) (ls.map fun p => if p.1 = k then (p.1, y) else p) := by
      intro ks ls h
      induction h with
      | nil => exact .nil
      | @cons p q _ _ r' _ ih =>
        refine .cons ?_ ih
        show ((if p.1 = k then (p.1, v) else p).1 = (if q.1 = k then (q.1, y) else q).1 ∧ i.rp K F (if p.1 = k then (p.1, v) else p).2 (if q.1 = k then (q.1, y) else q).2)
        by_cases z : p.1 = k
        · rw [if_pos z, if_pos (r'.1.symm.trans z)]; exact ⟨r'.1, r⟩
        · rw [if_neg z, if_neg fun z2 => z (r'.1.trans z2)]; exact r'
    exact go h
  · exact papp h (.cons ⟨rfl, r⟩ .nil)
noncomputable instance repDic {α : Type} [i : Rep α] : Rep (Dic κ α) := ⟨fun K F v x => ∃ a kvs, v = .ref a ∧ F a = some (dk.ho kvs) ∧ DRel i K F kvs x.l,
  fun s ⟨a, kvs, e, h, p⟩ => ⟨a, kvs, e, s _ _ h, Paired.mapP p fun _ _ q => ⟨q.1, i.mono s q.2⟩⟩⟩
noncomputable def ownD (κ : Type) {α : Type} [ik : Rep κ] [DecidableEq κ] [dk : DKey κ] (i : Rep α) (a : Addr) (l : List (κ × α)) : Own where
  fp := [a]
  root := .ref a
  ok := fun K F H v => v = .ref a ∧ ∃ kvs, H a = some (dk.ho kvs) ∧ DRel i K F kvs l
  stay := fun s k ⟨e, vs, h, p⟩ => ⟨e, vs, k a (List.mem_singleton.mpr rfl) _ h, Paired.mapP p fun _ _ q => ⟨q.1, i.mono s q.2⟩⟩
  there := fun ⟨_, vs, h, _⟩ b hb z => by rw [List.mem_singleton.mp hb, h] at z; cases z
  rt := fun h => h.1
variable {X : Cx} {Γ : List Slot} {pos p p2 : Pos} {e a b c : Expr} {es : List Expr} {E : SE} {rest : List Stmt}
theorem exo_dict (κ : Type) {α : Type} [ik : Rep κ] [DecidableEq κ] [dk : DKey κ] (i : Rep α) : EX X Γ (.Dict [] [] pos) (fun r => r = .own fun o => ∃ a, o = ownD κ i a []) := fun B F H σ Q L q =>
  WE.of (dk.empty X pos) fun p hp => q _ (.ref p) F _ rfl (Ext.apart L.same hp) ⟨ownD κ i p [], ⟨p, rfl⟩, fun b hb => by rw [List.mem_singleton.mp hb]; exact ⟨hp, L.same.free hp⟩, rfl, [], upd_same, .nil⟩
end
section
variable {X : Cx} {Γ : List Slot} {α : Type} {i : Rep α} {pos p p2 : Pos} {e a b c : Expr} {es : List Expr} {E : SE} {rest : List Stmt}
class FlatV (α : Type) [i : Rep α] : Prop where
  fl : ∀ {K F v x}, i.rp K F v x → flatB v = true
  inj : ∀ {K F F' v w} {x : α}, i.rp K F v x → i.rp K F' w x → v = w
noncomputable instance : FlatV Tx := ⟨fun {_ _ v x} h => by obtain rfl : v = .str (sx x) := h; rfl, fun {_ _ _ v w x} h1 h2 => by obtain rfl : v = .str (sx x) := h1; obtain rfl : w = .str (sx x) := h2; rfl⟩
noncomputable instance : FlatV Int := ⟨fun {_ _ v x} h => by obtain rfl : v = .int x := h; rfl, fun {_ _ _ v w x} h1 h2 => by obtain rfl : v = .int x := h1; obtain rfl : w = .int x := h2; rfl⟩
end
end Tw
namespace Tw
open PySem PySem.Spec PyProof.Rows L2 TL
class HetT (α : Type) where
  els : α → List Slot
noncomputable instance (priority := low) repHetT {α : Type} [t : HetT α] : Rep α := ⟨fun K F v x => ∃ a vs, v = .ref a ∧ F a = some (.tup vs) ∧ HetOk K F vs (t.els x), fun s ⟨a, vs, e, h, r⟩ => ⟨a, vs, e, s _ _ h, r.mono s⟩⟩
section
variable {X : Cx} {Γ : List Slot} {α β γ δ : Type} {i : Rep α} {j : Rep β} {l : Rep γ} {pos p p2 : Pos} {e a b c : Expr} {es : List Expr} {E : SE} {rest body : List Stmt}
theorem ev_tupX {α : Type} [t : HetT α] {x1} {x : α} {A : List Slot} (h : EA X Γ es A) (hx : autoParam (t.els x = A) aRfl) (hz : autoParam (A.length ≤ 1000) Tw.aNle) : EV X Γ (.Tuple es x1 pos) x := fun B F H σ Q L q =>
  WE.of (pe_tup paW) (h B F H σ _ L fun vs F1 H1 e1 r1 => ⟨by rw [r1.len]; exact sl_small hz, fun p hp => by
    have s1 := (L.step e1).same
    have ea := Ext.new (o := .tup vs) s1 hp
    exact q (.ref p) _ _ (e1.trans ea) ⟨p, vs, rfl, upd_same, by rw [hx]; exact (r1.het).mono ea.ff⟩⟩)
theorem ev_ixX {α : Type} [t : HetT α] {x : α} {n : Int} {y : β} {k : Nat} (ha : EV X Γ a x) (hb : EV X Γ b n) (hk : ixN (t.els x).length n = some k) (hx : (t.els x)[k]? = some (.val j y)) (hp : autoParam (PlainIx b) Tw.aIR2) : EV X Γ (.Subscript a b pos) y := fun B F H σ Q L q =>
  WE.of (pe_ix ix_tup peW peW hp) (ha B F H σ _ L fun v F1 H1 e1 r1 => hb B F1 H1 σ _ (L.step e1) fun u F2 H2 e2 r2 => by
    obtain ⟨ad, vs, rfl, h1, r⟩ := r1
    obtain ⟨w, hw, rw'⟩ := r.get hx
    have s2 := (L.step (e1.trans e2)).same
    exact ⟨ad, vs, n, w, rfl, r2, st_of s2 (e2.ff _ _ h1), by unfold atI; rw [r.len, hk]; exact hw, q w F2 H2 (e1.trans e2) (j.mono e2.ff rw')⟩)
theorem st_unpack2 (k1 k2 : Nat) {n1 n2 : Str} {x : α × β} {q1 q2 tp : Pos} {kk} (he : EV X Γ e x) (hr : ST X rest ((Γ.set k1 (.val i x.1)).set k2 (.val j x.2)) E)
    (hg : PG X (.Tuple [.Name n1 q1, .Name n2 q2] kk tp) (gTup X.K 2 (gCons (gName k1) (gCons (gName k2) gNil))))
    (hs : autoParam (swapsWithSole [.Tuple [.Name n1 q1, .Name n2 q2] kk tp] e pos.line X.env = pure false) aRfl) (hw : autoParam (swappedStores [.Tuple [.Name n1 q1, .Name n2 q2] kk tp] e X.env = pure none) aRfl)
    (h1 : autoParam ((assignEach [.Tuple [.Name n1 q1, .Name n2 q2] kk tp] X.env).map (·.2) = [assign (.Tuple [.Name n1 q1, .Name n2 q2] kk tp) X.env]) aRfl) :
    ST X (.Assign [.Tuple [.Name n1 q1, .Name n2 q2] kk tp] e pos :: rest) Γ E := fun B F H σ D L ed =>
  WP.cons (ps_asg peW hg hs hw h1) (he B F H σ _ L fun v F1 H1 e1 r1 => by
    obtain ⟨ad, v1, v2, rfl, ha, p1, p2⟩ := r1
    have L1 := L.step e1
    exact ⟨ad, _, rfl, st_of L1.same ha, rfl, v1, _, rfl, v2, _, rfl, rfl, hr B F1 H1 _ D ((L1.putV k1 p1).putV k2 p2) (ed.weak e1.ff)⟩)
theorem ev_ixLO (k : Nat) {nm : Str} {ad : Addr} {xs : List α} {n : Int} {y : α} (hb : EV X Γ b n) (hx : atI xs n = some y) (hg : autoParam (Γ[k]? = some (.lst i ad xs)) aRfl) (hN : autoParam (X.N[k]? = some nm) aRfl)
    (hv : autoParam (Vis X.env.scope nm) aVis) (hdd : autoParam ((nm == ("__debug__" : Str)) = false) aDec) (hcd : autoParam ((nm == ("__classdict__" : Str)) = false) aDec) (hp : autoParam (PlainIx b) Tw.aIR2) : EV X Γ (.Subscript (.Name nm p) b pos) y := fun B F H σ Q L q => by
  obtain ⟨vs0, ea, _⟩ := slot_lst L hg
  refine WE.of (pe_ix ix_list (pe_var hN hv hdd hcd) peW hp) ⟨_, ea, hb B F H σ _ L fun u F1 H1 e1 r1 => ?_⟩
  obtain ⟨vs, _, _, _, h1, pr⟩ := slot_lst (L.step e1) hg
  obtain ⟨k', hk, hx⟩ := Option.bind_eq_some_iff.mp hx
  obtain ⟨w, hw, rw'⟩ := pgetL pr hx
  exact ⟨ad, vs, n, w, rfl, r1, .inl (.inl h1), by unfold atI; rw [Paired.length pr, hk]; exact hw, q w F1 H1 e1 rw'⟩
theorem exx_imp {P P' : Ret → Prop} {R R' : Exn → Prop} (h : EXX X Γ e P R) (f : ∀ r, P r → P' r) (g : ∀ y, R y → R' y) : EXX X Γ e P' R' := fun B F H σ Q L q z => h B F H σ Q L (fun r v F' H' hp => q r v F' H' (f r hp)) (fun y u d F' H' hy => z y u d F' H' (g y hy))
end
section
variable {X : Cx} {Γ : List Slot} {α β γ : Type} {pos pos' np p p2 : Pos} {e : Expr} {E : SE} {rest body suite : List Stmt} {b₀ : Stmt}
theorem st_tryO {x : Str} (hN : X.N.Nodup) (hc : XC X.K X.mg x)
    (hb : ∀ pn xe, PassesOwn (model X.prog X.w) X.A X.env xe → ST (X.tr pn xe) body Γ { E with nx := fun Γ' => ST X rest Γ' E, ex := fun Γ' y => (XSub X.K y.cls x true ∧ ∀ a pn, ST (X.suite a pn) (b₀ :: suite) Γ'
        { nx := fun Γ2 => ST X rest Γ2 E, rt := E.rt, bk := E.bk, ct := E.ct, ex := fun _ _ => False }) ∨ (XSub X.K y.cls x false ∧ E.ex Γ' y) })
    (hg : autoParam (Gl X x) aRfl) (hdb : autoParam ((x == ("__debug__" : Str)) = false) aDec) (hs : autoParam (X.stack = X.env :: X.outer) aRfl) (hf : autoParam (X.env.frame = some X.env.locals) aRfl) :
    ST X (.Try body [.ExceptHandler (some (.Name x np)) none (b₀ :: suite) pos'] [] [] pos :: rest) Γ E := fun B F H σ D L ed => by
  obtain ⟨C, xC, gC⟩ := hc
  refine WP.cons (ps_try_only (tb := fun W D σ H => ∀ pn xe, Takes (X.tr pn xe) W → PassesOwn (model X.prog X.w) X.A X.env xe → WP (X.tr pn xe) body D σ H) (ts := fun a _ _ D σ H => ∀ pn, WP (X.suite a pn) (b₀ :: suite) D σ H) hs hf ⟨hg, hdb, .inl gC⟩ takesW
    (fun W pn xe tk hp => ⟨fun pins s σ H D I h => (h pn xe tk hp).go pins s I⟩) (fun a oe _ _ pn _ _ => ⟨fun pins s σ H D I h => (h ((a, oe) :: pn)).go pins s I⟩)) ?_
  intro pn xe tk hp
  refine hb pn xe hp B F H σ _ L ⟨fun F1 H1 σ1 Γ1 s1 h1 L1 => h1 B F1 H1 σ1 D L1 (ed.weak s1), ed.rt, ed.bk, ed.ct, fun F1 H1 σ1 Γ1 y u d s1 h1 L1 ok => XW.of tk ?_⟩
  obtain ⟨Cy, eu, nCy, _⟩ := id ok
  subst eu
  rcases h1 with ⟨hsub, hsu⟩ | ⟨hsub, hE⟩
  · refine ⟨true, (hsub Cy C nCy xC.ns).1, fun _ a ha pn => ?_, fun z => nomatch z⟩
    exact hsu a pn B F1 H1 σ1 _ L1 ⟨fun F5 H5 σ5 Γ5 s5 h5 L5 => h5 B F5 H5 _ D L5 (ed.weak (s1.trans s5)), ed.rt, fun F5 H5 σ5 Γ5 s5 h5 L5 => ed.bk F5 H5 _ _ (s1.trans s5) h5 L5, fun F5 H5 σ5 Γ5 s5 h5 L5 => ed.ct F5 H5 _ _ (s1.trans s5) h5 L5, fun _ _ _ _ _ _ _ _ z => z.elim⟩
  · exact ⟨false, (hsub Cy C nCy xC.ns).1, (fun z => nomatch z), fun _ => ed.ex F1 H1 σ1 Γ1 y _ d s1 hE L1 ok⟩
end
end Tw
namespace Tw
open PySem PySem.Spec PyProof.Rows L2 TL
theorem cnt_nodup (xs : List Str) : ∀ i, i ≤ xs.length → (SetS.cnt xs i = i ↔ (xs.take i).Nodup)
  | 0, _ => by simp [SetS.cnt]
  | i + 1, hi => by
    have ih := cnt_nodup xs i (by omega)
    have le := SetS.cnt_le xs i
    have e : xs.take (i + 1) = xs.take i ++ [xs.getD i Str.empty] := by
      rw [List.take_succ, List.getElem?_eq_getElem (by omega), List.getD_eq_getElem?_getD, List.getElem?_eq_getElem (by omega)]
      rfl
    rw [e, List.nodup_append]
    unfold SetS.cnt
    have hm : (xs.take i).any (· == xs.getD i Str.empty) = true ↔ xs.getD i Str.empty ∈ xs.take i := by
      rw [List.any_eq_true]
      exact ⟨fun ⟨z, h1, h2⟩ => (beq_iff_eq.mp h2) ▸ h1, fun h => ⟨_, h, by simp⟩⟩
    split
    · rename_i h
      refine ⟨fun z => by omega, fun ⟨_, _, z⟩ => ?_⟩
      exact absurd rfl (z _ (hm.mp h) _ (List.mem_singleton.mpr rfl))
    · rename_i h
      have h' := fun z => h (hm.mpr z)
      rw [Nat.add_right_cancel_iff, ih]
      refine ⟨fun z => ⟨z, by simp, fun a ha b hb q => ?_⟩, fun z => z.1⟩
      rw [List.mem_singleton.mp hb] at q
      exact h' (q ▸ ha)
noncomputable def unlike (x : Tx) : Nat := SetS.cnt (PyProof.Rows.signs (sx x)) (PyProof.Rows.signs (sx x)).length
theorem signs_sx (x : Tx) : PyProof.Rows.signs (sx x) = x.map fun c => ⟨#[c]⟩ := by
  unfold PyProof.Rows.signs sx
  simp
theorem unlike_nodup (x : Tx) : unlike x = x.length ↔ x.Nodup := by
  have h := cnt_nodup (PyProof.Rows.signs (sx x)) (PyProof.Rows.signs (sx x)).length (Nat.le_refl _)
  have l : (PyProof.Rows.signs (sx x)).length = x.length := by rw [signs_sx, List.length_map]
  unfold unlike
  rw [List.take_length] at h
  rw [l] at h ⊢
  rw [h, signs_sx]
  have inj : ∀ a b : Nat, (⟨#[a]⟩ : Str) = ⟨#[b]⟩ → a = b := fun a b e => by simpa using e
  constructor
  · intro q
    exact (List.pairwise_map.mp q).imp fun {a b} n e => n (by rw [e])
  · intro q
    exact List.pairwise_map.mpr (q.imp fun {a b} n e => n (inj a b e))
section
variable {X : Cx} {Γ : List Slot} {α β γ : Type} {i : Rep α} {j : Rep β} {pos p p2 : Pos} {e a b c : Expr} {es : List Expr} {E : SE} {rest body : List Stmt}
theorem ev_lenSet {x : Tx} {q0 : Pos} (m1 : X.mg "len" = none) (m2 : X.mg "set" = none) (h : EV X Γ e x) (hz : x.length < 4000) (g1 : autoParam (Gl X "len") aRfl) (g2 : autoParam (Gl X "set") aRfl) (hc : autoParam (X.calm = true) aRfl) (hs : autoParam (starEach [e] X.env = (false, eval e X.env) :: starEach [] X.env) aStar) :
    EV X Γ (.Call (.Name "len" p) [.Call (.Name "set" p2) [e] [] q0] [] pos) ((unlike x : Nat) : Int) := fun B F H σ Q L q =>
  WE.of (pe_lenSetS hc g1 m1 g2 m2 peW hs) (h B F H σ _ L fun v F1 H1 e1 r1 => by
    obtain rfl : v = .str (sx x) := r1
    exact ⟨sx x, rfl, by rw [sx_len]; unfold scanBound; omega, q _ F1 H1 e1 rfl⟩)
theorem st_extend (k : Nat) {n : Str} {ad : Addr} {xs ys : List α} {apos cpos : Pos} (he : EN X Γ e ys) (hr : ST X rest (Γ.set k (.lst i ad (xs ++ ys))) E) (hz : xs.length + ys.length ≤ sizeLine) (hg : autoParam (Γ[k]? = some (.lst i ad xs)) aRfl) (hN : autoParam (X.N[k]? = some n) aRfl)
    (hv : autoParam (Vis X.env.scope n) aVis) (hd : autoParam ((n == ("__debug__" : Str)) = false) aDec) (hcd : autoParam ((n == ("__classdict__" : Str)) = false) aDec)
    (hbase : autoParam (attributeBase (.Name n p) "extend" X.env (eval (.Name n p) X.env) = eval (.Name n p) X.env) aRfl)
    (hfew : autoParam (((backTo cpos (starEach [e] X.env)).all (fun x => !x.1) && (backToKw cpos (keywordEach [] X.env)).all (fun x => x.1.isSome) && decide ([e].length + ([] : List Keyword).length + (if ([] : List Keyword).isEmpty then 0 else 1) < 30)) = true) aRfl)
    (hline : autoParam ((apos.endLine == cpos.line) = true) aRfl) (hs : autoParam (starEach [e] X.env = (false, eval e X.env) :: starEach [] X.env) aStar) (hplain : autoParam ((backTo cpos (starEach [] X.env)).any (·.1) = false) aRfl)
    (hsw : autoParam (swapsWith (.Call (.Attribute (.Name n p) "extend" apos) [e] [] cpos) none pos.line X.env = pure false) aRfl) :
    ST X (.Expr (.Call (.Attribute (.Name n p) "extend" apos) [e] [] cpos) pos :: rest) Γ E := fun B F H σ D L ed => by
  obtain ⟨vs, ea, fa, ba, ha, pr⟩ := slot_lst L hg
  refine WP.cons (ps_expr (pe_bm PySem.F.plainAttrs_list PySem.F.slot_list_extend PySem.F.type_list_extend mt_extend (pe_var hN hv hd hcd) (pa_cons peW pa_nil hs) hbase hfew hline hs hplain) hsw) ?_
  refine ⟨_, ea, .inl ⟨rfl, _, .inl (.inl ha)⟩, he B F H σ _ L fun ad2 vs2 F1 H1 e1 h2 f2 h2' pr2 => ?_⟩
  have L1 := L.step e1
  obtain ⟨vs1, _, _, _, ha1, pr1⟩ := slot_lst L1 hg
  refine ⟨ad, ad2, vs1, vs2, rfl, rfl, ha1, h2', by rw [Paired.length pr1, Paired.length pr2]; exact hz, ?_⟩
  exact hr B F1 _ σ D (L1.updL hg (papp pr1 pr2)) (ed.weak e1.ff)
end
end Tw
namespace Tw
open PySem PySem.Spec PyProof.Rows L2 TL
end Tw
namespace Tw
open PySem PySem.Spec PyProof.Rows L2 TL
section
variable {X : Cx} {Γ : List Slot} {α β γ : Type} {i : Rep α} {j : Rep β} {pos p p2 : Pos} {e a b c : Expr} {es : List Expr} {E : SE} {rest body : List Stmt}
theorem ev_intB {x : Bool} (hm : X.mg "int" = none) (h : EV X Γ e x) (hg : autoParam (Gl X "int") aRfl) (hs : autoParam (starEach [e] X.env = (false, eval e X.env) :: starEach [] X.env) aStar) (hpl : autoParam ((backTo pos (starEach [] X.env)).any (·.1) = false) aPl) :
    EV X Γ (.Call (.Name "int" p) [e] [] pos) (if x then (1 : Int) else 0) :=
  ev_callT1 call_int1 hm (by decide +kernel) h (fun F H v Q s r q => by
    obtain rfl : v = .bl x := r
    exact .inr ⟨x, rfl, q _ F H (Ext.refl s) rfl⟩) hg (by decide) (by decide) hs hpl
end
end Tw
namespace Tw
open PySem PySem.Spec PyProof.Rows L2 TL
set_option genInjectivity true in
inductive Dy where
  | i (n : Int)
  | s (x : Tx)
  | n
  | t (xs : List Dy)
  | l (xs : List Dy)
mutual
noncomputable def rpD (F : Hp) : Dy → V → Prop
  | .i n, v => v = .int n
  | .s x, v => v = .str (sx x)
  | .n, v => v = .non
  | .t xs, v => ∃ a vs, v = .ref a ∧ F a = some (.tup vs) ∧ rpDs F xs vs
  | .l xs, v => ∃ a vs, v = .ref a ∧ F a = some (.lst vs) ∧ rpDs F xs vs
noncomputable def rpDs (F : Hp) : List Dy → List V → Prop
  | [], vs => vs = []
  | x :: xs, vs => ∃ v ws, vs = v :: ws ∧ rpD F x v ∧ rpDs F xs ws
end
mutual
theorem rpD_mono {F F' : Hp} (h : Same F F') : ∀ (x : Dy) (v : V), rpD F x v → rpD F' x v
  | .i n, v, r => by rw [rpD] at r ⊢; exact r
  | .s x, v, r => by rw [rpD] at r ⊢; exact r
  | .n, v, r => by rw [rpD] at r ⊢; exact r
  | .t xs, v, r => by
    rw [rpD] at r ⊢
    obtain ⟨a, vs, e, h1, h2⟩ := r
    exact ⟨a, vs, e, h _ _ h1, rpDs_mono h xs vs h2⟩
  | .l xs, v, r => by
    rw [rpD] at r ⊢
    obtain ⟨a, vs, e, h1, h2⟩ := r
    exact ⟨a, vs, e, h _ _ h1, rpDs_mono h xs vs h2⟩
theorem rpDs_mono {F F' : Hp} (h : Same F F') : ∀ (xs : List Dy) (vs : List V), rpDs F xs vs → rpDs F' xs vs
  | [], vs, r => by rw [rpDs] at r ⊢; exact r
  | x :: xs, vs, r => by
    rw [rpDs] at r ⊢
    obtain ⟨v, ws, e, h1, h2⟩ := r
    exact ⟨v, ws, e, rpD_mono h x v h1, rpDs_mono h xs ws h2⟩
end
noncomputable instance repDy : Rep Dy := ⟨fun _ F v x => rpD F x v, fun s h => rpD_mono s _ _ h⟩
theorem rpDs_iff {α : Type} [i : Rep α] {K : PySem.W.Frag} {F : Hp} {d : α → Dy} (hd : ∀ v x, i.rp K F v x ↔ rpD F (d x) v) : ∀ (xs : List α) (vs : List V), Paired (fun u x => i.rp K F u x) vs xs ↔ rpDs F (xs.map d) vs
  | [], vs => by
    rw [List.map_nil, rpDs]
    exact ⟨fun h => by cases h; rfl, fun h => by subst h; exact .nil⟩
  | x :: xs, vs => by
    rw [List.map_cons, rpDs]
    constructor
    · intro h
      cases h with
      | cons r t => exact ⟨_, _, rfl, (hd _ _).mp r, (rpDs_iff hd xs _).mp t⟩
    · rintro ⟨v, ws, rfl, r, t⟩
      exact .cons ((hd _ _).mpr r) ((rpDs_iff hd xs _).mpr t)
class IsD (α : Type) [i : Rep α] where
  d : α → Dy
  iff : ∀ {K : PySem.W.Frag} {F : Hp} {v : V} {x : α}, i.rp K F v x ↔ rpD F (d x) v
noncomputable instance isdDy : IsD Dy := ⟨fun x => x, Iff.rfl⟩
noncomputable instance isdInt : IsD Int := ⟨.i, by intro K F v x; rw [rpD]; exact Iff.rfl⟩
noncomputable instance isdTx : IsD (List Nat) := ⟨.s, by intro K F v x; rw [rpD]; exact Iff.rfl⟩
noncomputable instance isdUnit : IsD Unit := ⟨fun _ => .n, by intro K F v x; rw [rpD]; exact Iff.rfl⟩
noncomputable instance isdList {α : Type} [i : Rep α] [h : IsD α] : IsD (List α) := ⟨fun xs => .l (xs.map h.d), by
  intro K F v xs
  rw [rpD]
  constructor
  · rintro ⟨a, vs, e, h1, p⟩
    exact ⟨a, vs, e, h1, (rpDs_iff (K := K) (fun v x => h.iff) xs vs).mp p⟩
  · rintro ⟨a, vs, e, h1, p⟩
    exact ⟨a, vs, e, h1, (rpDs_iff (K := K) (fun v x => h.iff) xs vs).mpr p⟩⟩
noncomputable instance isdTup {α : Type} [i : Rep α] [h : IsD α] : IsD (Tup α) := ⟨fun xs => .t (xs.l.map h.d), by
  intro K F v xs
  rw [rpD]
  constructor
  · rintro ⟨a, vs, e, h1, p⟩
    exact ⟨a, vs, e, h1, (rpDs_iff (K := K) (fun v x => h.iff) xs.l vs).mp p⟩
  · rintro ⟨a, vs, e, h1, p⟩
    exact ⟨a, vs, e, h1, (rpDs_iff (K := K) (fun v x => h.iff) xs.l vs).mpr p⟩⟩
noncomputable instance isdPair {α β : Type} [i : Rep α] [j : Rep β] [h : IsD α] [h2 : IsD β] : IsD (α × β) := ⟨fun x => .t [h.d x.1, h2.d x.2], by
  intro K F v x
  rw [rpD]
  constructor
  · rintro ⟨a, u, w, e, h1, p, q⟩
    refine ⟨a, _, e, h1, ?_⟩
    rw [rpDs]
    refine ⟨u, _, rfl, h.iff.mp p, ?_⟩
    rw [rpDs]
    exact ⟨w, _, rfl, h2.iff.mp q, by rw [rpDs]⟩
  · rintro ⟨a, vs, e, h1, p⟩
    rw [rpDs] at p
    obtain ⟨u, ws, rfl, p, q⟩ := p
    rw [rpDs] at q
    obtain ⟨w, ws, rfl, q, r⟩ := q
    rw [rpDs] at r
    subst r
    exact ⟨a, u, w, e, h1, h.iff.mpr p, h2.iff.mpr q⟩⟩
@[reducible] noncomputable def repOfD {α : Type} (d : α → Dy) : Rep α := ⟨fun _ F v x => rpD F (d x) v, fun s h => rpD_mono s _ _ h⟩
section
variable {X : Cx} {Γ : List Slot} {α β γ : Type} {i : Rep α} {j : Rep β} {l : Rep γ} {pos p p2 : Pos} {e a b c elt tg it : Expr} {es : List Expr} {E : SE} {rest body : List Stmt}
theorem ev_conv {x : α} {y : β} (h : EV X Γ e x) (f : ∀ K F v, i.rp K F v x → j.rp K F v y) : EV X Γ e y := fun B F H σ Q L q => h B F H σ Q L fun v F' H' ex r => q v F' H' ex (f _ _ _ r)
theorem ev_d {x : α} [h : IsD α] (he : EV X Γ e x) : EV X Γ e (h.d x) := ev_conv he fun _ _ _ r => h.iff.mp r
theorem ev_u {x : α} {y : Dy} [h : IsD α] (he : EV X Γ e y) (q : autoParam (y = h.d x) aRfl) : EV X Γ e x := ev_conv he fun _ _ _ r => by subst q; exact h.iff.mpr r
theorem ev_t {xs : List Dy} (he : EV X Γ e (Dy.t xs)) : EV X Γ e (Tup.mk xs) := ev_conv he fun K F v r => (isdTup (α := Dy)).iff.mpr (by show rpD F (.t (xs.map fun x => x)) v; rw [List.map_id']; exact r)
theorem ev_ot {xs : List Dy} (he : EV X Γ e (Tup.mk xs)) : EV X Γ e (Dy.t xs) := ev_conv he fun K F v r => by
  have := (isdTup (α := Dy)).iff.mp r
  have h : rpD F (.t (xs.map fun x => x)) v := this
  rw [List.map_id'] at h
  exact h
theorem ev_catT {xs ys : Tup α} (ha : EV X Γ a xs) (hb : EV X Γ b ys) (hne : xs.l ≠ []) (hz : xs.l.length + ys.l.length ≤ sizeLine) : EV X Γ (.BinOp a .Add b pos) (Tup.mk (xs.l ++ ys.l)) := fun B F H σ Q L q =>
  WE.of (pe_op op_catT peW peW) (ha B F H σ _ L fun v F1 H1 e1 r1 => hb B F1 H1 σ _ (L.step e1) fun u F2 H2 e2 r2 => by
    obtain ⟨a1, vs, rfl, h1, p1⟩ := r1
    obtain ⟨a2, ws, rfl, h2, p2⟩ := r2
    have e12 := e1.trans e2
    have s2 := (L.step e12).same
    have p1' := Paired.mapP p1 fun _ _ z => i.mono e2.ff z
    refine ⟨a1, a2, vs, ws, rfl, rfl, st_of s2 (e2.ff _ _ h1), st_of s2 h2, ?_, by rw [Paired.length p1, Paired.length p2]; exact hz, fun hw => ?_, fun hw p hp => ?_⟩
    · intro z
      subst z
      cases xs with
      | mk l => cases l with
        | nil => exact hne rfl
        | cons _ _ => cases p1
    · subst hw
      have : ys.l = [] := by
        cases ys with
        | mk l => cases l with
          | nil => rfl
          | cons _ _ => cases p2
      refine q _ F2 H2 e12 ?_
      show repTup.rp X.K F2 (V.ref a1) (Tup.mk (xs.l ++ ys.l))
      rw [this, List.append_nil]
      exact ⟨a1, vs, rfl, e2.ff _ _ h1, p1'⟩
    · have ea := Ext.new (o := .tup (vs ++ ws)) s2 hp
      exact q (.ref p) _ _ (e12.trans ea) ⟨p, _, rfl, upd_same, Paired.mapP (papp p1' p2) fun _ _ z => i.mono ea.ff z⟩)
theorem ev_sliceT {lo hi : Option Expr} {o1 o2 : Option Int} {xs : Tup α} (ha : EV X Γ a xs) (hl : EO X Γ lo o1) (hh : EO X Γ hi o2) (hw : ¬ (HT.sIx xs.l.length 0 o1 = 0 ∧ HT.sIx xs.l.length xs.l.length o2 = xs.l.length)) : EV X Γ (.Subscript a (.Slice lo hi none p2) pos) (Tup.mk (cutL xs.l o1 o2)) := fun B F H σ Q L q =>
  WE.of (pe_slice sl_tup peW (poW (Γ := Γ)) (poW (Γ := Γ))) (ha B F H σ _ L fun v F1 H1 e1 r1 => eo_run hl (L.step e1) fun F2 H2 e2 => eo_run hh (L.step (e1.trans e2)) fun F3 H3 e3 => by
    obtain ⟨ad, vs, rfl, h1, pr⟩ := r1
    have e123 := (e1.trans e2).trans e3
    have s3 := (L.step e123).same
    have e23 := e2.trans e3
    refine ⟨ad, vs, rfl, st_of s3 (e23.ff _ _ h1), by rw [Paired.length pr]; exact hw, fun p hp => ?_⟩
    have ea := Ext.new (o := .tup (cutV vs o1 o2)) s3 hp
    refine q (.ref p) _ _ (e123.trans ea) ⟨p, _, rfl, upd_same, ?_⟩
    have e5 := (e23.trans ea).ff
    have key : Paired (fun u x => i.rp X.K (upd F3 p (.tup (cutV vs o1 o2))) u x) (cutV vs o1 o2) (cutL xs.l o1 o2) := by
      have h2 := Paired.mapP pr fun _ _ z => i.mono e5 z
      generalize upd F3 p (.tup (cutV vs o1 o2)) = G at h2 ⊢
      unfold cutV cutL
      rw [Paired.length pr]
      exact ptake _ (pdrop _ h2)
    exact key)
theorem cutL_from {A : Type} {xs : List A} (k : Nat) : cutL xs (some (k : Int)) none = xs.drop k := by
  unfold cutL
  rw [HT.sIx_nat]
  show (xs.drop (min k xs.length)).take (xs.length - min k xs.length) = _
  rw [List.take_of_length_le (by rw [List.length_drop]; exact Nat.le_refl _)]
  by_cases h : k ≤ xs.length
  · rw [Nat.min_eq_left h]
  · rw [Nat.min_eq_right (by omega), List.drop_length, List.drop_eq_nil_of_le (by omega)]
theorem cutL_to {A : Type} {xs : List A} (k : Nat) : cutL xs none (some (k : Int)) = xs.take k := by
  unfold cutL
  rw [HT.sIx_nat]
  show (xs.drop 0).take (min k xs.length - 0) = _
  rw [List.drop_zero, Nat.sub_zero]
  by_cases h : k ≤ xs.length
  · rw [Nat.min_eq_left h]
  · rw [Nat.min_eq_right (by omega), List.take_length, List.take_of_length_le (by omega)]
theorem whole_no {n : Nat} (k : Nat) (o : Option Int) (h1 : 0 < k) (h2 : 0 < n) : ¬ (HT.sIx n 0 (some (k : Int)) = 0 ∧ HT.sIx n n o = n) := by
  rw [HT.sIx_nat]
  omega
theorem ev_tupL {xs : List α} (hm : X.mg "tuple" = none) (h : EV X Γ e xs) (hg : autoParam (Gl X "tuple") aRfl) (hs : autoParam (starEach [e] X.env = (false, eval e X.env) :: starEach [] X.env) aStar) (hpl : autoParam ((backTo pos (starEach [] X.env)).any (·.1) = false) aPl) :
    EV X Γ (.Call (.Name "tuple" p) [e] [] pos) (Tup.mk xs) := fun B F H σ Q L q =>
  WE.of (pe_callTy call_tuple_of hg hm (by decide +kernel) (pa_cons peW pa_nil hs) (by decide) (by decide) hs hpl) (h B F H σ _ L fun v F1 H1 e1 r1 => by
    obtain ⟨ad, vs, rfl, ha, pr⟩ := r1
    have s1 := (L.step e1).same
    exact ⟨ad, vs, rfl, .inl ⟨sq_of s1 ha, fun q' hq => by
      have ea := Ext.new (o := .tup vs) s1 hq
      exact q (.ref q') _ _ (e1.trans ea) ⟨q', vs, rfl, upd_same, Paired.mapP pr fun _ _ z => i.mono ea.ff z⟩⟩⟩)
theorem ED.same {B : Bs} {F0 F1 : Hp} {D : Ends} (ed : ED X B F0 E D) (s : Same F0 F1) : ED X B F1 E D := ed.weak s
end
end Tw
namespace Tw
open PySem PySem.Spec PyProof.Rows L2 TL
end Tw
namespace Tw
open PySem PySem.Spec PyProof.Rows L2 TL
theorem cat_tup0 {prog : Program} {w : World} {A : Around} {E : Value → Shared → Prop} {s : Shared} {t b : Addr} {its ws : Array Value} {Q : Value → Shared → Prop} (ht : IsTup s.heap t its) (he : its.isEmpty = true) (hb : IsTup s.heap b ws) (h : Q (.ref b) s) :
    wpAny (model prog w) A (binaryOp .Add (.ref t) (.ref b)) Q E s := by
  obtain ⟨⟨c1, d1, dat1, l1⟩, ho, hc, n, hd⟩ := id ht
  obtain ⟨⟨c2, d2, dat2, l2⟩, ho2, hc2, n2, hd2⟩ := id hb
  simp only at hc hd hc2 hd2
  subst hc hd hc2 hd2
  exact concat_meets ⟨_, ho, rfl⟩ ⟨_, ho2, rfl⟩ noFill_tuple_add seq_tuple_add PySem.F.slot_tuple_add PySem.F.entry_tuple_add (PySem.F.args_tuple_add_2 _ _) (tuple_addW0 t b its ws n n2 d1 d2 l1 l2 he) ⟨ho, ho2, h⟩
theorem op_catT0 {X : Cx} : OpR X (binaryOp .Add) (fun x y H Q => ∃ a b ys, x = .ref a ∧ y = .ref b ∧ SqT X.K H a [] ∧ SqT X.K H b ys ∧ Q (.ref b) H) := by
  intro pins s σ H x y v u Q I rx ry h
  obtain ⟨a, b, ys, rfl, rfl, ha, hb, q⟩ := h
  cases rx
  cases ry
  obtain ⟨its, r1, p1, _⟩ := I.tuple ha
  obtain ⟨its2, r2, p2, _⟩ := I.tuple hb
  have e : its = [] := by cases r1; rfl
  exact cat_tup0 p1 (by rw [e]; rfl) p2 ⟨.ref b, H, I, rfl, q⟩
section
variable {X : Cx} {Γ : List Slot} {α β γ : Type} {i : Rep α} {j : Rep β} {pos p p2 pos2 : Pos} {e a b c elt tg it : Expr} {es : List Expr} {E : SE} {rest body : List Stmt}
theorem ev_catT0 {xs ys : Tup α} (ha : EV X Γ a xs) (hb : EV X Γ b ys) (hz : xs.l.length + ys.l.length ≤ sizeLine) : EV X Γ (.BinOp a .Add b pos) (Tup.mk (xs.l ++ ys.l)) := by
  by_cases hne : xs.l = []
  · intro B F H σ Q L q
    refine WE.of (pe_op op_catT0 peW peW) (ha B F H σ _ L fun v F1 H1 e1 r1 => hb B F1 H1 σ _ (L.step e1) fun u F2 H2 e2 r2 => ?_)
    obtain ⟨a1, vs, rfl, h1, p1⟩ := r1
    obtain ⟨a2, ws, rfl, h2, p2⟩ := r2
    have e12 := e1.trans e2
    have s2 := (L.step e12).same
    have ev : vs = [] := by
      cases xs with
      | mk l => cases hne; cases p1; rfl
    subst ev
    refine ⟨a1, a2, ws, rfl, rfl, st_of s2 (e2.ff _ _ h1), st_of s2 h2, q _ F2 H2 e12 ?_⟩
    show repTup.rp X.K F2 (V.ref a2) (Tup.mk (xs.l ++ ys.l))
    rw [hne, List.nil_append]
    exact ⟨a2, ws, rfl, h2, p2⟩
  · exact ev_catT ha hb hne hz
theorem ev_ixY {x : α} {n : Int} {y : β} {ds : List Dy} [h1 : IsD α] [h2 : IsD β] (ha : EV X Γ a x) (hi : EV X Γ b n) (hd : h1.d x = .t ds) (hk : atI ds n = some (h2.d y)) (hp : autoParam (PlainIx b) Tw.aIR2) : EV X Γ (.Subscript a b pos) y :=
  ev_u (y := h2.d y) (ev_ixT (ev_t (hd ▸ ev_d ha)) hi hk hp)
theorem ev_lenY {x : α} {ds : List Dy} [h1 : IsD α] (hm : X.mg "len" = none) (ha : EV X Γ e x) (hd : h1.d x = .t ds) (hg : autoParam (Gl X "len") aRfl) (hs : autoParam (starEach [e] X.env = (false, eval e X.env) :: starEach [] X.env) aStar) (hpl : autoParam ((backTo pos (starEach [] X.env)).any (·.1) = false) aPl) :
    EV X Γ (.Call (.Name "len" p) [e] [] pos) (ds.length : Int) := ev_lenT hm (xs := Tup.mk ds) (ev_t (hd ▸ ev_d ha)) hg hs hpl
theorem ev_tt {xs : Tup α} {ys : Tup β} [h1 : IsD α] [h2 : IsD β] (h : EV X Γ e xs) (q : xs.l.map h1.d = ys.l.map h2.d) : EV X Γ e ys := ev_conv h fun K F v r => by
  have a := (isdTup (α := α)).iff.mp r
  exact (isdTup (α := β)).iff.mpr (by show rpD F (.t (ys.l.map h2.d)) v; rw [← q]; exact a)
end
end Tw
namespace EnumT
open PySem PySem.Spec PyProof.Rows L2
theorem meets_new1 {v : Value} {o : Obj} {Hh : Heap → Prop} (B : Begins v o Hh) :
    Meets (Builtin.«enumerate.__new__» ⟨[.type "enumerate", v], []⟩) (fun _ R s => Hh s.heap ∧
      R (.ok (.ret (.ref (s.heap.push o).objs.size))) { s with heap := (s.heap.push o).push { cls := .type "enumerate", data := .fields #[.none, .bool false, .ref s.heap.objs.size, rawInt 0, .none, .none] } }) :=
  .of_wp fun prog w A R s h => by
    obtain ⟨hp, g, d, tk, os⟩ := s
    obtain ⟨hh, h⟩ := h
    have hsub := sub_enumerate
    have q1 : ∀ {B' : Around} {E : Value → Shared → Prop} {Q : Value → Shared → Prop}, Q (.ref hp.objs.size) ⟨hp.push o, g, d, tk, os⟩ → wpAny (model prog w) B' (pyIter v) Q E ⟨hp, g, d, tk, os⟩ := fun q => B.iter prog w _ _ ⟨hp, g, d, tk, os⟩ _ hh q
    wp_walk using q1
    refine wpAny_stack_any fun st => wpAny_pure ?_
    split
    · rename_i c _ _ _ _ _
      cases (c == Value.type "enumerate") <;> (wp_walk using q1; exact ⟨_, rfl, h⟩)
    · wp_walk using q1
      exact ⟨_, rfl, h⟩
theorem call_enum1 {prog : Program} {w : World} {A : Around} {E : Value → Shared → Prop} {s : Shared} {v : Value} {o : Obj} {Hh : Heap → Prop} {Q : Value → Shared → Prop} (B : Begins v o Hh) (hh : Hh s.heap)
    (h : ∀ h', IsEnum h' (s.heap.objs.size + 1) s.heap.objs.size 0 .none → h'.get? s.heap.objs.size = some o → (∀ b o, s.heap.get? b = some o → h'.get? b = some o) → Q (.ref (s.heap.objs.size + 1)) { s with heap := h' }) :
    wpAny (model prog w) A (call (.type "enumerate") [v]) Q E s := by
  refine callType_new F.called_enumerate (by decide) (F.typeCall_enumerate_1 _) (F.newCall_enumerate_1 _) (fun obj => F.args_object_init_2 obj _) F.entry_enumerate_new (meets_new1 B) ⟨hh, ?_⟩
  have hz : (s.heap.push o).objs.size = s.heap.objs.size + 1 := Heap.size_push ..
  show _ ∧ _
  rw [hz]
  have he : IsEnum ((s.heap.push o).push { cls := .type "enumerate", data := .fields #[.none, .bool false, .ref s.heap.objs.size, rawInt 0, .none, .none] }) (s.heap.objs.size + 1) s.heap.objs.size 0 .none := by
    have q := Heap.get?_push_size (s.heap.push o) (o := { cls := .type "enumerate", data := .fields #[.none, .bool false, .ref s.heap.objs.size, rawInt 0, .none, .none] }) rfl
    rw [hz] at q; exact q
  exact ⟨⟨_, he, rfl⟩, h _ he (Heap.get?_push_of_some _ (Heap.get?_push_size _ B.free)) fun b o y => Heap.get?_push_of_some _ (Heap.get?_push_of_some _ y)⟩
noncomputable def IteT (K : PySem.W.Frag) (a : Addr) (n : Nat) : It :=
  ⟨fun i H => i < n ∧ ∃ xs x, SqT K H a xs ∧ xs.length = n ∧ xs[i]? = some x, fun i H v H' => ∃ T x, v = .ref T ∧ H T = none ∧ H' = upd H T (.tup [.int (i : Nat), x]) ∧ ∀ xs, SqT K H a xs → xs[i]? = some x, fun i H => n = i ∧ ∃ xs, SqT K H a xs ∧ xs.length = n⟩
theorem turn_enumT {P : Program} {w : World} {K : PySem.W.Frag} {elts : List Expr} {kk : Nat} {tpos : Pos} (a : Addr) (n : Nat) (e it : Addr) :
    Turn P w K (.Tuple elts kk tpos) (IteT K a n) [e, it] e (fun i h => (∃ old, IsEnum h e it ((i : Nat) : Int) old) ∧ h.IsTupleIter it a i ∧ e ≠ it) where
  mem := by simp
  obj := fun i h st b hb => by
    obtain ⟨⟨old, he⟩, ⟨o, ho, hc, hd⟩, _⟩ := st
    have e' : b = e ∨ b = it := by simpa using hb
    rcases e' with z | z
    · rw [z]; exact ⟨_, he, fun v q => nomatch q⟩
    · rw [z]; exact ⟨o, ho, fun v q => by rw [hd] at q; cases q⟩
  keep := fun i h h' st k => let ⟨⟨old, he⟩, ⟨o, ho, r⟩, hne⟩ := st; ⟨⟨old, k e (by simp) _ he⟩, ⟨o, k it (by simp) o ho, r⟩, hne⟩
  item := by
    intro X hP hw hK hc i pins s σ H E I hf st hg
    subst hP hw hK
    obtain ⟨⟨old, he⟩, hit, hne⟩ := st
    have hel : e < s.heap.objs.size := Heap.lt_size he
    have hil : it < s.heap.objs.size := by obtain ⟨_, q, _⟩ := hit; exact Heap.lt_size q
    obtain ⟨hin, xs, x, hq, hln, hx⟩ := hg
    obtain ⟨its, rv, p, hz⟩ := I.tuple hq
    obtain ⟨u, hu, ru⟩ := rv.get hx
    have hlen := rv.length
    have hna : a ≠ it := fun z => by
      obtain ⟨o, q1, q2, _⟩ := hit
      obtain ⟨o2, q3, q4, _⟩ := id p
      rw [z, q1] at q3
      cases q3
      rw [q2] at q4
      exact absurd q4 (by decide)
    have hea : e ≠ a := fun z => by
      have q1 : s.heap.get? e = _ := he
      obtain ⟨o2, q3, q4, _⟩ := id p
      rw [← z, q1] at q3
      cases q3
      exact absurd (show Value.type "enumerate" = Value.type "tuple" from q4) (by decide)
    refine wpAny_pyNext_enum_itemD (Draws.tuple (A := X.A.in1) (show X.A.handled = none from I.ok.hd hc) it a hna its.toArray) he ⟨hit, p⟩ (by simp; omega) hne (by simp [hne, hea]) fun v h' tk hPv ho hit' hT hsz hk => ?_
    obtain rfl : u = v := Option.some.inj ((show its.toArray[i]? = some u by simpa using hu).symm.trans hPv)
    refine ⟨_, rfl, wpAny_letOwnedTupleGo_enum (s := { s with heap := h', toks := tk + 1 }) ho fun h'' he' sb => ?_⟩
    have hT2 : h''.get? s.heap.objs.size = some { cls := .type "tuple", data := .seq #[.int i tk, u] } := (sb.2 _ (Nat.ne_of_gt hel)).trans hT
    have new : ObjOk X.prog X.w (upd H s.heap.objs.size (.tup [.int (i : Nat), x])) h'' s.heap.objs.size (.tup [.int (i : Nat), x]) :=
      ⟨by show 2 ≤ sizeLine; decide, [.int i tk, u], .cons ⟨_, rfl⟩ (.cons ru .nil), ⟨_, hT2, rfl, _, rfl⟩⟩
    have I1 : Inv X pins σ (upd H s.heap.objs.size (.tup [.int (i : Nat), x])) { s with heap := h'', toks := tk + 1 } :=
      I.turnedNew (ch := [e, it]) (fun b ob hb q => (sb.2 b (fun z => hb (by simp [z]))).trans (hk b ob (fun z => hb (by simp [z])) (fun z => hb (by simp [z])) q)) hf (Nat.le_refl _) new
    refine ⟨.ref s.heap.objs.size, _, I1, rfl, ⟨_, x, rfl, I.hok.fresh (Nat.le_refl _), rfl, fun ys hy => by rw [I.tuple_inj hy hq]; exact hx⟩, ⟨⟨u, ?_⟩, ?_, hne⟩, fun b hb => ?_⟩
    · have e1 : ((i + 1 : Nat) : Int) = (i : Int) + 1 := by omega
      rw [e1]; exact he'
    · obtain ⟨o, ho', r⟩ := hit'.1
      exact ⟨o, (sb.2 it (Ne.symm hne)).trans ho', r⟩
    · have hb' : b < s.heap.objs.size := by
        have e' : b = e ∨ b = it := by simpa using hb
        rcases e' with z | z
        · rw [z]; exact hel
        · rw [z]; exact hil
      rw [upd_ne (Nat.ne_of_lt hb')]
      exact (hf b hb).1
  done := by
    intro X hP hw hK hc i pins s σ H E I hf st hg
    subst hP hw hK
    obtain ⟨⟨old, he⟩, hit, hne⟩ := st
    obtain ⟨hni, xs, hq, hln⟩ := hg
    obtain ⟨its, rv, p, hz⟩ := I.tuple hq
    have hlen := rv.length
    have hna : a ≠ it := fun z => by
      obtain ⟨o, q1, q2, _⟩ := hit
      obtain ⟨o2, q3, q4, _⟩ := id p
      rw [z, q1] at q3
      cases q3
      rw [q2] at q4
      exact absurd q4 (by decide)
    have hsi : its.toArray.size = i := by simp; omega
    obtain ⟨f0, f1, f2, f3, f4, f5⟩ := hf it (by simp)
    exact wpAny_pyNext_enum_endD (Draws.tuple (A := X.A.in1) (show X.A.handled = none from I.ok.hd hc) it a hna its.toArray) he (by rw [hsi]; exact ⟨hit, p⟩) fun h' eb => ⟨rfl, I.turned (t' := s.toks) (fun b o hb q => eb b o hb q) f0 f1 f3 f4 f5⟩
  self := fun A i s Q E st h => let ⟨⟨_, he⟩, _⟩ := st; wpAny_pyIter_enum he h
noncomputable def iEnumT (K : PySem.W.Frag) (ta : TA) : TI := fun σ H R => ta σ H fun vs H1 => ∃ a xs, vs = [.ref a] ∧ SqT K H1 a xs ∧ R (IteT K a xs.length) H1
theorem pi_enumT {X : Cx} {e : Expr} {ta : TA} {p pos tpos : Pos} {elts : List Expr} {kk : Nat} (hg : Gl X "enumerate") (hm : X.mg "enumerate" = none) (ha : PA X [e] ta) (hs : autoParam (starEach [e] X.env = [(false, eval e X.env)]) Tw.aRfl) :
    PI X (.Tuple elts kk tpos) (.Call (.Name "enumerate" p) [e] [] pos) (iEnumT X.K ta) := by
  refine ⟨fun pins s σ H R I h => ?_⟩
  refine Call_ (ld_blt I hg hm boot_enumerate (PyProof.Rows.callWith_type1 (thn (ha.run pos pins s σ H _ I h) fun us s1 ⟨vs, H1, I1, r1, q1⟩ => ?_) hs rfl))
  obtain ⟨a, xs, ex, hq, q⟩ := q1
  subst ex
  cases r1 with
  | cons r rr =>
    cases rr
    cases r
    obtain ⟨its, rv, p', hz⟩ := I1.tuple hq
    have p2 : s1.heap.IsTuple a its.toArray := p'
    refine call_enum1 (begins_tuple a its.toArray) p2 fun h' he hit hk => wpAny_pyIter_enum he ?_
    have I2 : Inv X pins σ H1 { s1 with heap := h' } := I1.kept (t' := s1.toks) hk
    refine ⟨s1.heap.objs.size + 1, [s1.heap.objs.size + 1, s1.heap.objs.size], _, _, H1, rfl, I2, turn_enumT a xs.length (s1.heap.objs.size + 1) s1.heap.objs.size, ⟨⟨.none, he⟩, ⟨_, hit, rfl, rfl⟩, Nat.succ_ne_self _⟩, fun b hb => ?_, q⟩
    have e' : b = s1.heap.objs.size + 1 ∨ b = s1.heap.objs.size := by simpa using hb
    have hle : s1.heap.objs.size ≤ b := by
      rcases e' with z | z
      · rw [z]; exact Nat.le_add_right _ _
      · rw [z]; exact Nat.le_refl _
    exact I1.fpOk hle (I1.hok.fresh hle)
end EnumT
namespace Tw
open PySem PySem.Spec PyProof.Rows L2 TL
section
variable {X : Cx} {Γ : List Slot} {α β γ : Type} {i : Rep α} {j : Rep β} {pos p p2 pos2 : Pos} {e a b c elt tg it : Expr} {es : List Expr} {E : SE} {rest body : List Stmt}
theorem src_enumT {xs : Tup α} {elts : List Expr} {kk : Nat} {tpos p2 : Pos} (hm : X.mg "enumerate" = none) (ha : EV X Γ a xs) (hg : autoParam (Gl X "enumerate") aRfl) (hs : autoParam (starEach [a] X.env = [(false, eval a X.env)]) aStar) : Src X Γ (.Tuple elts kk tpos) (.Call (.Name "enumerate" p) [a] [] p2) (enumL xs.l) :=
  ⟨_, EnumT.pi_enumT hg hm (pa_cons peW pa_nil hs) hs, fun B F H σ R L q => ha B F H σ _ L fun v F1 H1 e1 r1 => by
    obtain ⟨a1, vs, rfl, h1, p1⟩ := r1
    have s2 := (L.step e1).same
    have hl := Paired.length p1
    refine ⟨a1, vs, rfl, st_of s2 h1, q _ F1 H1 e1 fun F3 H3 s3 s4 => ⟨fun k x hx => ?_, ?_, vs, st_of s4 (s3 _ _ h1), rfl⟩⟩
    · obtain ⟨n, y⟩ := x
      obtain ⟨hx1, hx2⟩ := enumL_get hx
      obtain ⟨w1, hw1, r1'⟩ := pgetL p1 hx2
      have hk : k < vs.length := (List.getElem?_eq_some_iff.mp hw1).1
      refine ⟨⟨hk, vs, w1, st_of s4 (s3 _ _ h1), rfl, hw1⟩, fun v H4 hy => ?_⟩
      obtain ⟨T, y1, rfl, hT, rfl, g1⟩ := hy
      have z1 : w1 = y1 := Option.some.inj (hw1.symm.trans (g1 vs (st_of s4 (s3 _ _ h1))))
      subst z1
      have ea := Ext.new (o := .tup [.int (k : Nat), w1]) s4 hT
      exact ⟨_, ea, T, .int (k : Nat), w1, rfl, upd_same, (show V.int (k : Nat) = V.int n by rw [show n = (k : Int) from hx1]), i.mono (s3.trans ea.ff) r1'⟩
    · rw [enumL_len]; exact hl⟩
noncomputable def ownLN {α : Type} (i : Rep α) (a l : Addr) (xs : List α) : Own where
  fp := [a, l]
  root := .ref a
  ok := fun K F H v => v = .ref a ∧ a ≠ l ∧ H a = some (.tup [.ref l, .non]) ∧ ∃ vs, H l = some (.lst vs) ∧ Paired (fun u x => i.rp K F u x) vs xs
  stay := fun s k ⟨e, n, h, vs, h1, p1⟩ => ⟨e, n, k a (by simp) _ h, vs, k l (by simp) _ h1, Paired.mapP p1 fun _ _ q => i.mono s q⟩
  there := fun ⟨_, _, h, vs, h1, _⟩ b hb z => by
    have hb' : b = a ∨ b = l := by simpa using hb
    rcases hb' with rfl | rfl
    · rw [h] at z; cases z
    · rw [h1] at z; cases z
  rt := fun h => h.1
theorem frozLN {ad l : Addr} {xs : List α} : Froz (ownLN i ad l xs) ((some xs, none) : Option (List α) × Option β) := fun {K F H v} s ⟨e, n, h, vs, h1, p1⟩ f => by
  subst e
  refine ⟨ad, .ref l, .non, rfl, by rw [frz_in (by show ad ∈ [ad, l]; simp)]; exact h, ⟨l, vs, rfl, by rw [frz_in (by show l ∈ [ad, l]; simp)]; exact h1, ?_⟩, rfl⟩
  exact Paired.mapP p1 fun _ _ q => i.mono (frz_le f) q
theorem ex_pairLN {x1} {xs : List α} (ha : EN X Γ a xs) (hb : EV X Γ b ()) (hs : autoParam (starEach [a, b] X.env = (false, eval a X.env) :: starEach [b] X.env) aStar) (hs2 : autoParam (starEach [b] X.env = (false, eval b X.env) :: starEach [] X.env) aStar) : EX X Γ (.Tuple [a, b] x1 pos) (fun r => r = .own fun o => ∃ ad l, o = ownLN i ad l xs) := fun B F H σ Q L q =>
  WE.of (pe_tup (pa_cons peW (pa_cons peW pa_nil hs2) hs)) (ha B F H σ _ L fun l vs F1 H1 e1 hl fl h1 p1 => hb B F1 H1 σ _ (L.step e1) fun u F2 H2 e2 r2 => by
    obtain rfl : u = .non := r2
    refine ⟨by show 2 ≤ sizeLine; decide, fun p hp => ?_⟩
    have L2 := L.step (e1.trans e2)
    have h2 := e2.hs _ _ h1
    have hpl : p ≠ l := fun z => by rw [z, h2] at hp; cases hp
    have fl2 : F2 l = none := e2.nw l fl (by rw [h1]; exact fun z => nomatch z)
    have hpH : H p = none := (e1.trans e2).hs.free hp
    have fp2 : F2 p = none := L2.same.free hp
    refine q _ (.ref p) F2 _ rfl ((e1.trans e2).trans (Ext.apart L2.same hp)) ⟨_, ⟨p, l, rfl⟩, fun b hb => ?_, rfl, hpl, upd_same, vs, by rw [upd_ne (Ne.symm hpl)]; exact h2, Paired.mapP p1 fun _ _ z => i.mono e2.ff z⟩
    have hb' : b = p ∨ b = l := by simpa [ownLN] using hb
    rcases hb' with rfl | rfl
    · exact ⟨hpH, fp2⟩
    · exact ⟨hl, fl2⟩)
theorem WA.no {es : List Expr} {σ : L2.St} {H : Hp} {Q : List V → Hp → Prop} (h : WA X es σ H (fun _ _ => False)) : WA X es σ H Q := ⟨fun pos pins s I => wpAny_mono (h.go pos pins s I) (fun us s1 ⟨vs, H1, I1, r1, hf⟩ => hf.elim) fun _ _ z => z⟩
theorem exx_tupA {x1} {R : Exn → Prop} (ha : EXA X Γ es R) : EXX X Γ (.Tuple es x1 pos) (fun _ => False) R := fun B F H σ Q L _ z => WE.of (pe_tup paW) (WA.no (ha B F H σ L z))
theorem st_unpackLN (k1 k2 : Nat) {n1 n2 : Str} {xs : List α} {q1 q2 tp : Pos} {kk} (he : EX X Γ e (fun r => r = .own fun o => ∃ ad l, o = ownLN i ad l xs)) (hr : ∀ l, ST X rest ((Γ.set k1 (.lst i l xs)).set k2 (vl ())) E)
    (hg : PG X (.Tuple [.Name n1 q1, .Name n2 q2] kk tp) (gTup X.K 2 (gCons (gName k1) (gCons (gName k2) gNil))))
    (hs : autoParam (swapsWithSole [.Tuple [.Name n1 q1, .Name n2 q2] kk tp] e pos.line X.env = pure false) aRfl) (hw : autoParam (swappedStores [.Tuple [.Name n1 q1, .Name n2 q2] kk tp] e X.env = pure none) aRfl)
    (h1 : autoParam ((assignEach [.Tuple [.Name n1 q1, .Name n2 q2] kk tp] X.env).map (·.2) = [assign (.Tuple [.Name n1 q1, .Name n2 q2] kk tp) X.env]) aRfl) :
    ST X (.Assign [.Tuple [.Name n1 q1, .Name n2 q2] kk tp] e pos :: rest) Γ E := fun B F H σ D L ed =>
  WP.cons (ps_asg peW hg hs hw h1) (he B F H σ _ L fun r v F1 H1 hr1 e1 ok => by
    subst hr1
    obtain ⟨o, ⟨ad, l, rfl⟩, f, rfl, hne, ht, vs, hl, pr⟩ := ok
    have fl := f l (by show l ∈ [ad, l]; simp)
    refine ⟨ad, [.ref l, .non], rfl, .inl (.inl ht), rfl, .ref l, [.non], rfl, .non, [], rfl, rfl, ?_⟩
    exact hr l B F1 H1 _ D ((L.putL k1 e1 fl.1 fl.2 hl pr).putV k2 (i := repUnit) (x := ()) rfl) (ed.weak e1.ff))
end
end Tw
namespace Tw
open PySem PySem.Spec PyProof.Rows L2 TL
mutual
noncomputable def Dy.py : Dy → PyData
  | .i z => .int z
  | .s x => .str (sx x)
  | .n => .none
  | .t xs => .tuple (Dy.pys xs)
  | .l xs => .list (Dy.pys xs)
noncomputable def Dy.pys : List Dy → List PyData
  | [] => []
  | x :: xs => x.py :: Dy.pys xs
end
mutual
noncomputable def Dy.okc : Dy → Prop
  | .i _ => True
  | .s x => TxOk x
  | .n => True
  | .t xs => Dy.okcs xs
  | .l xs => Dy.okcs xs
noncomputable def Dy.okcs : List Dy → Prop
  | [] => True
  | x :: xs => x.okc ∧ Dy.okcs xs
end
mutual
noncomputable def Dy.dep : Dy → Nat
  | .i _ => 0
  | .s _ => 0
  | .n => 0
  | .t xs => Dy.deps xs + 1
  | .l xs => Dy.deps xs + 1
noncomputable def Dy.deps : List Dy → Nat
  | [] => 0
  | x :: xs => max x.dep (Dy.deps xs)
end
theorem Dy.okcs_iff : ∀ {xs : List Dy}, Dy.okcs xs ↔ ∀ x ∈ xs, x.okc
  | [] => by rw [Dy.okcs]; simp
  | x :: xs => by rw [Dy.okcs, Dy.okcs_iff, List.forall_mem_cons]
theorem Dy.deps_le {n : Nat} : ∀ {xs : List Dy}, (∀ x ∈ xs, x.dep ≤ n) → Dy.deps xs ≤ n
  | [], _ => by rw [Dy.deps]; exact Nat.zero_le _
  | x :: xs, h => by
    rw [Dy.deps]
    have h1 := h x (List.mem_cons_self ..)
    have h2 := Dy.deps_le (xs := xs) fun y hy => h y (List.mem_cons_of_mem _ hy)
    omega
mutual
theorem Dy.py_dep : ∀ x : Dy, x.py.depth = x.dep
  | .i z => by rw [Dy.py, Dy.dep, PyData.depth]
  | .s x => by rw [Dy.py, Dy.dep, PyData.depth]
  | .n => by rw [Dy.py, Dy.dep, PyData.depth]
  | .t xs => by rw [Dy.py, Dy.dep, PyData.depth, Dy.pys_dep xs]
  | .l xs => by rw [Dy.py, Dy.dep, PyData.depth, Dy.pys_dep xs]
theorem Dy.pys_dep : ∀ xs : List Dy, PyData.depthAll (Dy.pys xs) = Dy.deps xs
  | [] => by rw [Dy.pys, Dy.deps, PyData.depthAll]
  | x :: xs => by rw [Dy.pys, Dy.deps, PyData.depthAll, Dy.py_dep x, Dy.pys_dep xs]
end
mutual
theorem Dy.py_lay : ∀ x : Dy, x.okc → x.py.canLay0 = true
  | .i z, _ => by rw [Dy.py, PyData.canLay0]
  | .s x, h => by
    rw [Dy.py]
    rw [Dy.okc] at h
    exact (instDatTx).lay h
  | .n, _ => by rw [Dy.py, PyData.canLay0]
  | .t xs, h => by rw [Dy.py, PyData.canLay0]; rw [Dy.okc] at h; exact Dy.pys_lay xs h
  | .l xs, h => by rw [Dy.py, PyData.canLay0]; rw [Dy.okc] at h; exact Dy.pys_lay xs h
theorem Dy.pys_lay : ∀ xs : List Dy, Dy.okcs xs → PyData.canLayAll0 (Dy.pys xs) = true
  | [], _ => by rw [Dy.pys, PyData.canLayAll0]
  | x :: xs, h => by
    rw [Dy.okcs] at h
    rw [Dy.pys, PyData.canLayAll0, Dy.py_lay x h.1, Dy.pys_lay xs h.2]
    rfl
end
mutual
theorem Dy.py_eqv : ∀ x y : Dy, PyData.eqv x.py y.py = true ↔ x = y
  | .i a, .i b => by rw [Dy.py, Dy.py, PyData.eqv, beq_iff_eq]; exact ⟨fun h => congrArg _ h, fun h => Dy.i.inj h⟩
  | .i a, .s b => by simp [Dy.py, PyData.eqv]
  | .i a, .n => by simp [Dy.py, PyData.eqv]
  | .i a, .t b => by simp [Dy.py, PyData.eqv]
  | .i a, .l b => by simp [Dy.py, PyData.eqv]
  | .s a, .i b => by simp [Dy.py, PyData.eqv]
  | .s a, .s b => by
    rw [Dy.py, Dy.py]
    have := (instDatTx).eqv a b
    rw [show PyData.eqv (.str (sx a)) (.str (sx b)) = decide (a = b) from this, decide_eq_true_eq]
    exact ⟨fun h => congrArg _ h, fun h => Dy.s.inj h⟩
  | .s a, .n => by simp [Dy.py, PyData.eqv]
  | .s a, .t b => by simp [Dy.py, PyData.eqv]
  | .s a, .l b => by simp [Dy.py, PyData.eqv]
  | .n, .i b => by simp [Dy.py, PyData.eqv]
  | .n, .s b => by simp [Dy.py, PyData.eqv]
  | .n, .n => by simp [Dy.py, PyData.eqv]
  | .n, .t b => by simp [Dy.py, PyData.eqv]
  | .n, .l b => by simp [Dy.py, PyData.eqv]
  | .t a, .i b => by simp [Dy.py, PyData.eqv]
  | .t a, .s b => by simp [Dy.py, PyData.eqv]
  | .t a, .n => by simp [Dy.py, PyData.eqv]
  | .t a, .t b => by rw [Dy.py, Dy.py, PyData.eqv, Dy.pys_eqv a b]; exact ⟨fun h => congrArg _ h, fun h => Dy.t.inj h⟩
  | .t a, .l b => by simp [Dy.py, PyData.eqv]
  | .l a, .i b => by simp [Dy.py, PyData.eqv]
  | .l a, .s b => by simp [Dy.py, PyData.eqv]
  | .l a, .n => by simp [Dy.py, PyData.eqv]
  | .l a, .t b => by simp [Dy.py, PyData.eqv]
  | .l a, .l b => by rw [Dy.py, Dy.py, PyData.eqv, Dy.pys_eqv a b]; exact ⟨fun h => congrArg _ h, fun h => Dy.l.inj h⟩
theorem Dy.pys_eqv : ∀ xs ys : List Dy, PyData.eqvAll (Dy.pys xs) (Dy.pys ys) = true ↔ xs = ys
  | [], [] => by simp [Dy.pys, PyData.eqvAll]
  | [], y :: ys => by simp [Dy.pys, PyData.eqvAll]
  | x :: xs, [] => by simp [Dy.pys, PyData.eqvAll]
  | x :: xs, y :: ys => by rw [Dy.pys, Dy.pys, PyData.eqvAll, Bool.and_eq_true, Dy.py_eqv x y, Dy.pys_eqv xs ys]; exact ⟨fun h => by rw [h.1, h.2], fun h => by cases h; exact ⟨rfl, rfl⟩⟩
end
mutual
theorem rpD_dp {K : PySem.W.Frag} {F : Hp} : ∀ (x : Dy) (v : V), rpD F x v → Dp K F v x.py
  | .i z, v, h => by rw [rpD] at h; subst h; rw [Dy.py]; exact .int z
  | .s x, v, h => by rw [rpD] at h; subst h; rw [Dy.py]; exact .str _
  | .n, v, h => by rw [rpD] at h; subst h; rw [Dy.py]; exact .non
  | .t xs, v, h => by
    rw [rpD] at h
    obtain ⟨a, vs, rfl, h1, h2⟩ := h
    rw [Dy.py]
    exact .tup (.inl (.inl h1)) (rpDs_dp xs vs h2)
  | .l xs, v, h => by
    rw [rpD] at h
    obtain ⟨a, vs, rfl, h1, h2⟩ := h
    rw [Dy.py]
    exact .lst (.inl (.inl h1)) (rpDs_dp xs vs h2)
theorem rpDs_dp {K : PySem.W.Frag} {F : Hp} : ∀ (xs : List Dy) (vs : List V), rpDs F xs vs → DpAll K F vs (Dy.pys xs)
  | [], vs, h => by rw [rpDs] at h; subst h; rw [Dy.pys]; exact .nil
  | x :: xs, vs, h => by
    rw [rpDs] at h
    obtain ⟨v, ws, rfl, h1, h2⟩ := h
    rw [Dy.pys]
    exact .cons (rpD_dp x v h1) (rpDs_dp xs ws h2)
end
structure Dy.Shp (x : Dy) : Prop where
  ok : x.okc
  dp : x.dep ≤ 64
theorem Dy.Shp.shaped {x : Dy} (h : x.Shp) : SeqAt.shaped x.py = true := by
  unfold SeqAt.shaped
  rw [Dy.py_lay x h.ok, Dy.py_dep, decide_eq_true h.dp]
  rfl
section
variable {X : Cx} {α β : Type} {i : Rep α} {j : Rep β}
theorem o_eqY {x : α} {y : β} {kb : Bool} {k : Nat} [h1 : IsD α] [h2 : IsD β] (hr : Room k X.A) (hx : (h1.d x).Shp) (hy : (h2.d y).Shp) (hk : kb = true ↔ h1.d x = h2.d y) : OB X (compareOp .Eq) x y kb := ob_flat (op_eqD hr.units) fun F H v u Q s r1 r2 q =>
  ⟨(h1.d x).py, (h2.d y).py, rpD_dp _ _ (rpD_mono s _ _ (h1.iff.mp r1)), rpD_dp _ _ (rpD_mono s _ _ (h2.iff.mp r2)), hx.shaped, hy.shaped, q _ (by
    have e : PyData.eqv (h1.d x).py (h2.d y).py = kb := by rw [Bool.eq_iff_iff, Dy.py_eqv]; exact hk.symm
    rw [e]
    exact rfl)⟩
end
section
variable {K : PySem.W.Frag} {B : Bs} {F H F' H' : Hp} {σ : L2.St} {Γ : List Slot}
theorem Lc.putOO (L : Lc K B F H σ Γ) (k : Nat) {o : Own} {v : V} (f : ∀ b ∈ o.fp, F b = none ∧ B.nw b) (fr : ∀ (j : Nat) o', k ≠ j → Γ[j]? = some (.own o') → ∀ b ∈ o.fp, b ∉ o'.fp) (ok : o.ok K F H v) : Lc K B F H (σ.set k (some v)) (Γ.set k (.own o)) := by
  refine ⟨L.ext, by simp [L.len], fun j t h => ?_, L.ap.putO k fr⟩
  rw [get_set_join]
  rcases get_set_slot h with ⟨e1, e2, rfl⟩ | ⟨e1, h⟩
  · rw [if_pos ⟨e1, by rw [L.len]; exact e2⟩]
    exact ⟨v, rfl, ok, f⟩
  · rw [if_neg fun z => e1 z.1]; exact L.ok j t h
end
section
variable {X : Cx} {Γ : List Slot} {α β γ : Type} {i : Rep α} {j : Rep β} {pos p p2 pos2 : Pos} {e a b c elt tg it : Expr} {es : List Expr} {E : SE} {rest body : List Stmt}
theorem st_retC (k : Nat) {x : α} {o : Own} (he : EV X Γ e x) (hP : E.rt (.chg i x [o])) (hg : autoParam (Γ[k]? = some (.own o)) aRfl) : ST X (.Return (some e) pos :: rest) Γ E := fun B F H σ D L ed =>
  WP.cons (ps_ret peW) (he B F H σ _ L fun v F1 H1 e1 r1 => by
    have L1 := L.step e1
    obtain ⟨u, _, ok, f⟩ := slot_own L1 hg
    have eu := o.rt ok
    subst eu
    refine ed.rt (.chg i x [o]) v F1 H1 hP L1.ext ⟨r1, fun o' ho => ?_, by simp⟩
    rw [List.mem_singleton.mp ho]
    exact ⟨ok, fun b hb => ⟨(f b hb).2, (f b hb).1⟩⟩)
theorem st_setGE (k : Nat) {n : Str} {G : α → List Slot → Prop} (he : EG X Γ e (fun r Γ' => ∃ x, G x Γ' ∧ r = .val i x) (fun _ _ => False)) (hr : ∀ x Γ', G x Γ' → ST X rest (Γ'.set k (.val i x)) E) (hN : X.N.Nodup) (hi : autoParam (X.N[k]? = some n) aRfl) (hx : autoParam (L2.Loc X.env.scope n) aLoc)
    (hs : autoParam (swapsWith e (some (.Name n p)) pos.line X.env = pure false) aRfl) (hf : autoParam (X.fn n = true ∨ X.env.scope.names.lookup n = some .local) Tw.aFn) : ST X (.Assign [.Name n p] e pos :: rest) Γ E := fun B F H σ D L ed =>
  WP.cons (ps_set hN hi hx peW hs hf) (he B F H σ _ L (fun r v F1 H1 Γ2 hP s1 L1 ok => by
    obtain ⟨x, g, rfl⟩ := hP
    exact hr x Γ2 g B F1 H1 _ D (L1.putV k ok) (ed.weak s1)) fun x u d F1 H1 Γ1 z _ _ _ => z.elim)
theorem st_retPO (k1 k2 : Nat) {n1 n2 : Str} {a1 a2 : Addr} {xs : List α} {ys : List β} {kk} {q1 q2 tp : Pos} {P0 : Own → Prop} (hP : E.rt (.own P0)) (hk : k1 ≠ k2) (ho : ∀ ad, P0 (ownP i j ad a1 a2 xs ys)) (hg1 : autoParam (Γ[k1]? = some (.lst i a1 xs)) aRfl) (hg2 : autoParam (Γ[k2]? = some (.lst j a2 ys)) aRfl) (hN1 : autoParam (X.N[k1]? = some n1) aRfl) (hN2 : autoParam (X.N[k2]? = some n2) aRfl)
    (hv1 : autoParam (Vis X.env.scope n1) aVis) (hd1 : autoParam ((n1 == ("__debug__" : Str)) = false) aDec) (hcd1 : autoParam ((n1 == ("__classdict__" : Str)) = false) aDec)
    (hv2 : autoParam (Vis X.env.scope n2) aVis) (hd2 : autoParam ((n2 == ("__debug__" : Str)) = false) aDec) (hcd2 : autoParam ((n2 == ("__classdict__" : Str)) = false) aDec)
    (hs : autoParam (starEach [.Name n1 q1, .Name n2 q2] X.env = (false, eval (.Name n1 q1) X.env) :: starEach [.Name n2 q2] X.env) aStar) (hs2 : autoParam (starEach [.Name n2 q2] X.env = (false, eval (.Name n2 q2) X.env) :: starEach [] X.env) aStar) :
    ST X (.Return (some (.Tuple [.Name n1 q1, .Name n2 q2] kk tp)) pos :: rest) Γ E := fun B F H σ D L ed => by
  obtain ⟨vs, ea, f1, b1, h1, p1⟩ := slot_lst L hg1
  obtain ⟨ws, eb, f2, b2, h2, p2⟩ := slot_lst L hg2
  refine WP.cons (ps_ret (pe_tup (pa_cons (pe_var hN1 hv1 hd1 hcd1) (pa_cons (pe_var hN2 hv2 hd2 hcd2) pa_nil hs2) hs))) ?_
  refine ⟨_, ea, _, eb, by show 2 ≤ sizeLine; decide, fun ad hp => ?_⟩
  have n12 : a1 ≠ a2 := fun z => L.ap k1 k2 _ _ hk hg1 hg2 a1 (List.mem_singleton.mpr rfl) (List.mem_singleton.mpr z)
  have m1 : ad ≠ a1 := fun z => by rw [z, h1] at hp; cases hp
  have m2 : ad ≠ a2 := fun z => by rw [z, h2] at hp; cases hp
  have fp : F ad = none := L.same.free hp
  have L1 := L.step (Ext.apart (o := .tup [.ref a1, .ref a2]) L.same hp)
  refine ed.rt (.own P0) _ F _ hP L1.ext ⟨_, ho ad, fun b hb => ?_, rfl, ⟨m1, m2, n12⟩, upd_same, ⟨vs, by rw [upd_ne (Ne.symm m1)]; exact h1, p1⟩, ws, by rw [upd_ne (Ne.symm m2)]; exact h2, p2⟩
  have hb' : b = ad ∨ b = a1 ∨ b = a2 := by simpa [ownP] using hb
  rcases hb' with rfl | rfl | rfl
  · exact ⟨L.nw hp, fp⟩
  · exact ⟨b1, f1⟩
  · exact ⟨b2, f2⟩
theorem st_unpackP (k1 k2 : Nat) {n1 n2 : Str} {P0 : Own → Prop} {G : List α → List β → Prop} {q1 q2 tp : Pos} {kk} (hk : k1 ≠ k2) (he : EX X Γ e (fun r => r = .own P0)) (hP : ∀ o, P0 o → ∃ ad l m xs ys, G xs ys ∧ o = ownP i j ad l m xs ys) (hr : ∀ l m xs ys, G xs ys → ST X rest ((Γ.set k1 (.lst i l xs)).set k2 (.lst j m ys)) E)
    (hg : PG X (.Tuple [.Name n1 q1, .Name n2 q2] kk tp) (gTup X.K 2 (gCons (gName k1) (gCons (gName k2) gNil))))
    (hs : autoParam (swapsWithSole [.Tuple [.Name n1 q1, .Name n2 q2] kk tp] e pos.line X.env = pure false) aRfl) (hw : autoParam (swappedStores [.Tuple [.Name n1 q1, .Name n2 q2] kk tp] e X.env = pure none) aRfl)
    (h1 : autoParam ((assignEach [.Tuple [.Name n1 q1, .Name n2 q2] kk tp] X.env).map (·.2) = [assign (.Tuple [.Name n1 q1, .Name n2 q2] kk tp) X.env]) aRfl) :
    ST X (.Assign [.Tuple [.Name n1 q1, .Name n2 q2] kk tp] e pos :: rest) Γ E := fun B F H σ D L ed =>
  WP.cons (ps_asg peW hg hs hw h1) (he B F H σ _ L fun r v F1 H1 hr1 e1 ok => by
    subst hr1
    obtain ⟨o, ho, f, ok⟩ := ok
    obtain ⟨ad, l, m, xs, ys, g, rfl⟩ := hP o ho
    obtain ⟨rfl, ⟨n1', n2', n3'⟩, ht, ⟨vs, hl, p1⟩, ws, hm, p2⟩ := ok
    have fl := f l (by show l ∈ [ad, l, m]; simp)
    have fm := f m (by show m ∈ [ad, l, m]; simp)
    refine ⟨ad, [.ref l, .ref m], rfl, .inl (.inl ht), rfl, .ref l, [.ref m], rfl, .ref m, [], rfl, rfl, ?_⟩
    have L1 := L.putL k1 e1 fl.1 fl.2 hl p1
    refine hr l m xs ys g B F1 H1 _ D (L1.putOO k2 (o := ownL j m ys) (v := .ref m) (fun b hb => by rw [List.mem_singleton.mp hb]; exact ⟨fm.2, L.nw fm.1⟩) (fun q o' hq h b hb => ?_) ⟨rfl, ws, hm, p2⟩) (ed.weak e1.ff)
    rw [List.mem_singleton.mp hb]
    rcases get_set_slot h with ⟨_, _, z⟩ | ⟨_, h⟩
    · cases z
      exact fun z => n3' (List.mem_singleton.mp z).symm
    · exact L.ne_own fm.1 h)
end
end Tw
namespace Tw
open PySem PySem.Spec PyProof.Rows L2 TL
section
variable {X : Cx} {Γ : List Slot} {α β γ : Type} {i : Rep α} {j : Rep β} {l : Rep γ} {pos p p2 p3 pos2 : Pos} {e a b c elt tg it : Expr} {es : List Expr} {E : SE} {rest body : List Stmt}
theorem st_forOE (m : Nat) {n : Str} {ad : Addr} {xs : List α} {elts : List Expr} {kk : Nat} {tpos : Pos} {bind : (Int × α) → List Slot → List Slot} {vs : List Nat} {g : TG} (P : Nat → List Slot → Prop) (hm : X.mg "enumerate" = none) (hT : Tg X.K g bind vs) (h0 : P 0 Γ) (hown : ∀ k Γ', P k Γ' → Γ'[m]? = some (.lst i ad xs))
    (hb : ∀ (k : Nat) x Γ', xs[k]? = some x → P k Γ' → ST X body (bind ((k : Int), x) Γ') { nx := P (k + 1), ct := P (k + 1), bk := fun Γ2 => ST X rest Γ2 E, rt := E.rt, ex := E.ex })
    (hd : ∀ Γ', P xs.length Γ' → ST X rest Γ' E) (hg : PG X (.Tuple elts kk tpos) g) (hN : autoParam (X.N[m]? = some n) aRfl)
    (hv : autoParam (Vis X.env.scope n) aVis) (hdd : autoParam ((n == ("__debug__" : Str)) = false) aDec) (hcd : autoParam ((n == ("__classdict__" : Str)) = false) aDec) (hgl : autoParam (Gl X "enumerate") aRfl) (hs2 : autoParam (starEach [.Name n p] X.env = [(false, eval (.Name n p) X.env)]) aStar)
    (hp : autoParam (PassesOwn (model X.prog X.w) X.A X.env X.xe) Tw.aPass) (hc : autoParam (X.calm = true) aRfl) (hs : autoParam (∀ x, foldedSetIterable (.Call (.Name "enumerate" p3) [.Name n p] [] p2) X.env x = pure x) Tw.aIR1) :
    ST X (.For (.Tuple elts kk tpos) (.Call (.Name "enumerate" p3) [.Name n p] [] p2) body [] pos :: rest) Γ E := fun B F H σ D L ed => by
  obtain ⟨vs0, ea, _, _, ha, pr0⟩ := slot_lst L (hown 0 Γ h0)
  refine WP.cons (ps_for hp hc (pi_enum hgl hm (pa_cons (pe_var hN hv hdd hcd) pa_nil hs2) hs2) hg psW hs) ⟨_, ea, ad, vs0, rfl, .inl (.inl ha), fun t m σ H => m = xs.length - t ∧ t ≤ xs.length ∧ ∃ F2 Γ', P t Γ' ∧ Same F F2 ∧ Lc X.K B F2 H σ Γ', ⟨xs.length, rfl, Nat.zero_le _, F, Γ, h0, Same.refl _, L⟩, ?_⟩
  rintro t m σ H ⟨rfl, ht, F2, Γ', hP, s12, L2⟩
  obtain ⟨vs1, _, _, _, ha1, pr1⟩ := slot_lst L2 (hown t Γ' hP)
  have sq : SqL X.K H ad vs1 := .inl (.inl ha1)
  by_cases hlt : t < xs.length
  · have hx : xs[t]? = some xs[t] := List.getElem?_eq_getElem hlt
    obtain ⟨u, hu, ru⟩ := pgetL pr1 hx
    refine .inr ⟨⟨vs1, u, sq, hu⟩, fun σ' H' => ∃ F3 Γ3, P (t + 1) Γ3 ∧ Same F F3 ∧ Lc X.K B F3 H' σ' Γ3, fun σ' H' h => ⟨xs.length - (t + 1), by omega, rfl, hlt, h⟩, fun v H3 hy => ?_⟩
    obtain ⟨T, y1, rfl, hT', rfl, g1⟩ := hy
    have z1 : u = y1 := Option.some.inj (hu.symm.trans (g1 vs1 sq))
    subst z1
    have ea := Ext.new (o := .tup [.int (t : Nat), u]) L2.same hT'
    refine hT.run B _ _ σ Γ' _ ((t : Int), xs[t]) _ (L2.step ea) ⟨T, .int (t : Nat), u, rfl, upd_same, rfl, i.mono ea.ff ru⟩ fun σ2 L4 _ => ?_
    refine hb t _ Γ' hx hP B _ _ σ2 _ L4 ⟨fun F5 H5 σ5 Γ5 s5 h5 L5 => ?_, ed.rt, fun F5 H5 σ5 Γ5 s5 h5 L5 => h5 B F5 H5 σ5 D L5 (ed.weak (s12.trans (ea.ff.trans s5))), fun F5 H5 σ5 Γ5 s5 h5 L5 => ?_, fun F5 H5 σ5 Γ5 x u d s5 h5 L5 => ed.ex F5 H5 σ5 Γ5 x u d (s12.trans (ea.ff.trans s5)) h5 L5⟩
    · exact ⟨F5, Γ5, h5, s12.trans (ea.ff.trans s5), L5⟩
    · exact ⟨F5, Γ5, h5, s12.trans (ea.ff.trans s5), L5⟩
  · have et : t = xs.length := by omega
    subst et
    exact .inl ⟨⟨vs1, sq, by rw [Paired.length pr1]; exact Nat.le_refl _⟩, hd Γ' hP B F2 H σ D L2 (ed.weak s12)⟩
end
end Tw
namespace Tw
open PySem PySem.Spec PyProof.Rows L2 TL
section
variable {X : Cx} {Γ Γ' : List Slot} {α β γ : Type} {i : Rep α} {j : Rep β} {l : Rep γ} {pos p p2 p3 pos2 : Pos} {e a b c elt tg it : Expr} {es : List Expr} {E : SE} {rest body : List Stmt}
theorem ev_sliceA {lo hi : Option Expr} {o1 o2 : Option Int} {xs : Tup α} (ha : EV X Γ a xs) (hl : EO X Γ lo o1) (hh : EO X Γ hi o2) : EV X Γ (.Subscript a (.Slice lo hi none p2) pos) (Tup.mk (cutL xs.l o1 o2)) := fun B F H σ Q L q =>
  WE.of (pe_slice sl_tupA peW (poW (Γ := Γ)) (poW (Γ := Γ))) (ha B F H σ _ L fun v F1 H1 e1 r1 => eo_run hl (L.step e1) fun F2 H2 e2 => eo_run hh (L.step (e1.trans e2)) fun F3 H3 e3 => by
    obtain ⟨ad, vs, rfl, h1, pr⟩ := r1
    have e123 := (e1.trans e2).trans e3
    have s3 := (L.step e123).same
    have e23 := e2.trans e3
    refine ⟨ad, vs, rfl, st_of s3 (e23.ff _ _ h1), fun hw => ?_, fun hw p hp => ?_⟩
    · have hw' := hw
      rw [Paired.length pr] at hw'
      have ec : cutL xs.l o1 o2 = xs.l := by
        unfold cutL
        rw [hw'.1, hw'.2, List.drop_zero, Nat.sub_zero, List.take_length]
      refine q (.ref ad) _ _ e123 ?_
      rw [ec]
      exact ⟨ad, vs, rfl, e23.ff _ _ h1, Paired.mapP pr fun _ _ z => i.mono e23.ff z⟩
    · have ea := Ext.new (o := .tup (cutV vs o1 o2)) s3 hp
      refine q (.ref p) _ _ (e123.trans ea) ⟨p, _, rfl, upd_same, ?_⟩
      have e5 := (e23.trans ea).ff
      have key : Paired (fun u x => i.rp X.K (upd F3 p (.tup (cutV vs o1 o2))) u x) (cutV vs o1 o2) (cutL xs.l o1 o2) := by
        have h2 := Paired.mapP pr fun _ _ z => i.mono e5 z
        generalize upd F3 p (.tup (cutV vs o1 o2)) = G at h2 ⊢
        unfold cutV cutL
        rw [Paired.length pr]
        exact ptake _ (pdrop _ h2)
      exact key)
theorem st_nx {sts : List Stmt} {P Q : List Slot → Prop} (h : ST X sts Γ { E with nx := P }) (hPQ : ∀ Γ', P Γ' → Q Γ') : ST X sts Γ { E with nx := Q } := fun B F H σ D L ed =>
  h B F H σ D L ⟨fun F5 H5 σ5 Γ5 s5 hp L5 => ed.nx F5 H5 σ5 Γ5 s5 (hPQ _ hp) L5, ed.rt, ed.bk, ed.ct, ed.ex⟩
theorem st_ifJ {ι : Type} {k : Bool} {A C : List Stmt} (S : ι → List Slot) (I : ι → Prop) (hc : ET X Γ c k) (hA : k = true → ST X A Γ { E with nx := fun Γ' => ∃ y, Le Γ' (S y) ∧ I y }) (hC : k = false → ST X C Γ { E with nx := fun Γ' => ∃ y, Le Γ' (S y) ∧ I y }) (hr : ∀ y, I y → ST X rest (S y) E) : ST X (.If c A C pos :: rest) Γ E :=
  st_if hc (fun hk => st_nx (hA hk) fun Γ' ⟨y, le, hI⟩ => st_le le (hr y hI)) (fun hk => st_nx (hC hk) fun Γ' ⟨y, le, hI⟩ => st_le le (hr y hI))
theorem st_asgEx {G : α → Prop} {bind : α → List Slot → List Slot} {vs : List Nat} {g : TG} (he : EX X Γ e (fun r => ∃ x, G x ∧ r = .val i x)) (hT : Tg X.K g bind vs) (hr : ∀ x, G x → ST X rest (bind x Γ) E) (hg : PG X tg g) (hs : autoParam (swapsWithSole [tg] e pos.line X.env = pure false) aRfl) (hw : autoParam (swappedStores [tg] e X.env = pure none) aRfl)
    (h1 : autoParam ((assignEach [tg] X.env).map (·.2) = [assign tg X.env]) aRfl) : ST X (.Assign [tg] e pos :: rest) Γ E := fun B F H σ D L ed =>
  WP.cons (ps_asg peW hg hs hw h1) (he B F H σ _ L fun r v F1 H1 er e1 r1 => by
    obtain ⟨x, gx, rfl⟩ := er
    exact hT.run B F1 H1 σ _ v x _ (L.step e1) r1 fun σ2 L2 _ => hr x gx B F1 H1 σ2 D L2 (ed.weak e1.ff))
end
end Tw
namespace L2
open PySem PySem.Spec PySem.Calls PyProof.Rows
end L2
namespace Tw
open PySem PySem.Spec PyProof.Rows L2 TL
end Tw
namespace Tw
open PySem PySem.Spec PyProof.Rows L2 TL
end Tw
universe u
namespace Tw
open PySem PySem.Spec PyProof.Rows L2 TL
end Tw
namespace Tw
open PySem PySem.Spec PyProof.Rows L2 TL
end Tw
namespace Tw
open PySem PySem.Spec PyProof.Rows L2 TL
end Tw
namespace Tw
open PySem PySem.Spec PyProof.Rows L2 TL
theorem lt_mid {n : Nat} (h : n ≤ 100000) : n < sizeLine := Nat.lt_of_le_of_lt h (by decide)
end Tw
namespace Tw
open PySem PySem.Spec PyProof.Rows L2 TL
structure Key4 where
  n : Tx
  r : Int
  c : Int
  k : Int
deriving DecidableEq
noncomputable def Key4.ks (x : Key4) : List Key := [.inr (sx x.n), .inl x.r, .inl x.c, .inl x.k]
theorem Key4.inj : ∀ x y : Key4, x.ks = y.ks → x = y := fun x y h => by
  obtain ⟨n, r, c, k⟩ := x
  obtain ⟨n', r', c', k'⟩ := y
  simp only [Key4.ks, List.cons.injEq, and_true] at h
  obtain ⟨h1, h2, h3, h4⟩ := h
  rw [sx_inj (Sum.inr.inj h1), Sum.inl.inj h2, Sum.inl.inj h3, Sum.inl.inj h4]
noncomputable instance repKey4 : Rep Key4 := ⟨fun _ F v x => ∃ b, v = .ref b ∧ F b = some (.tup (x.ks.map kV)), fun s ⟨b, e, h⟩ => ⟨b, e, s _ _ h⟩⟩
noncomputable instance dkKey4 : DKey Key4 := .ofT Key4.ks Key4.inj fun h => h
section
variable {X : Cx} {Γ : List Slot} {pos p p2 : Pos} {e a b c d : Expr} {es : List Expr} {E : SE} {rest : List Stmt}
theorem ev_key4 {n : Tx} {x y z : Int} (h : EV X Γ e (Tup.mk [Dy.s n, Dy.i x, Dy.i y, Dy.i z])) : EV X Γ e (Key4.mk n x y z) := ev_conv h fun K F v r => by
  obtain ⟨a, vs, rfl, ha, pr⟩ := r
  cases pr with
  | cons r1 pr => cases pr with
    | cons r2 pr => cases pr with
      | cons r3 pr => cases pr with
        | cons r4 pr =>
          cases pr
          refine ⟨a, rfl, ?_⟩
          have e1 : repTx.rp K F _ n := isdTx.iff.mpr r1
          have e2 : repInt.rp K F _ x := isdInt.iff.mpr r2
          have e3 : repInt.rp K F _ y := isdInt.iff.mpr r3
          have e4 : repInt.rp K F _ z := isdInt.iff.mpr r4
          have e1 : _ = V.str (sx n) := e1
          have e2 : _ = V.int x := e2
          have e3 : _ = V.int y := e3
          have e4 : _ = V.int z := e4
          rw [ha]
          rw [e1, e2, e3, e4]; rfl
end
theorem Lc.updO2 {K : PySem.W.Frag} {B : Bs} {F H H' : Hp} {σ : L2.St} {Γ : List Slot} (L : Lc K B F H σ Γ) {k : Nat} {o o' : Own} {v : V} (hk : Γ[k]? = some (.own o)) (hv : σ[k]? = some (some v)) (keep : ∀ b u, b ∉ o.fp → H b = some u → H' b = some u) (old : ∀ b ∈ o.fp, H' b ≠ none)
    (fp : ∀ b ∈ o'.fp, b ∈ o.fp ∨ (F b = none ∧ B.nw b ∧ ∀ (q : Nat) o2, Γ[q]? = some (.own o2) → b ∉ o2.fp)) (ok : o'.ok K F H' v) : Lc K B F H' σ (Γ.set k (.own o')) := by
  obtain ⟨_, _, _, f⟩ := slot_own L hk
  have nfp : ∀ b u, F b = some u → b ∉ o.fp := fun b u q hb => by rw [(f b hb).1] at q; cases q
  refine ⟨⟨L.ext.ff, fun b u q => keep b u (nfp b u q) (L.same _ _ q), fun b u nb q => ?_, L.ext.nwM, fun x hx hb => ?_⟩, by simp [L.len], fun q t h => ?_, L.ap.putO k fun j o2 hj h b hb => ?_⟩
  · refine keep b u (fun hb => ?_) (L.ext.hh b u nb q)
    rcases (f b hb).2 with z | z
    · rw [z] at q; cases q
    · exact nb z
  · by_cases hm : x ∈ o.fp
    · exact old x hm
    · have := L.there x hx hb
      cases q : H x with
      | none => exact absurd q this
      | some u => rw [keep x u hm q]; exact fun z => nomatch z
  · rcases get_set_slot h with ⟨e1, e2, rfl⟩ | ⟨e1, hq⟩
    · subst e1
      rw [hv]
      refine ⟨v, rfl, ok, fun b hb => ?_⟩
      rcases fp b hb with z | z
      · exact f b z
      · exact ⟨z.1, z.2.1⟩
    · have old' := L.ok q t hq
      cases t with
      | no => trivial
      | val i x => exact old'
      | own o2 =>
        obtain ⟨u, eu, ok2, f2⟩ := old'
        exact ⟨u, eu, o2.stay (Same.refl F) (fun b hb w q1 => keep b w (fun hb2 => L.ap k q o o2 e1 hk hq b hb2 hb) q1) ok2, f2⟩
  · rcases fp b hb with z | z
    · exact L.ap k j o o2 hj hk h b z
    · exact z.2.2 j o2 h
noncomputable def ownC {α κ β : Type} (i : Rep α) [ik : Rep κ] [DecidableEq κ] [dk : DKey κ] (j : Rep β) (f1 f2 : Str) (C a dx da : Addr) (x : α) (l : List (κ × β)) : Own where
  fp := [a, dx, da]
  root := .ref a
  ok := fun K F H v => v = .ref a ∧ (a ≠ dx ∧ a ≠ da ∧ dx ≠ da) ∧ H dx = some (.own a) ∧ (∃ v1, H a = some (.ins C dx [(f1, v1), (f2, .ref da)]) ∧ i.rp K F v1 x) ∧ ∃ kvs, H da = some (dk.ho kvs) ∧ DRel j K F kvs l
  stay := fun s k ⟨e, n, h1, ⟨v1, h2, r⟩, kvs, h3, pr⟩ => ⟨e, n, k dx (by simp) _ h1, ⟨v1, k a (by simp) _ h2, i.mono s r⟩, kvs, k da (by simp) _ h3, Paired.mapP pr fun _ _ q => ⟨q.1, j.mono s q.2⟩⟩
  there := fun ⟨_, _, h1, ⟨_, h2, _⟩, _, h3, _⟩ b hb z => by
    have hb' : b = a ∨ b = dx ∨ b = da := by simpa using hb
    rcases hb' with rfl | rfl | rfl
    · rw [h2] at z; cases z
    · rw [h1] at z; cases z
    · rw [h3] at z; cases z
  rt := fun h => h.1
section
variable {X : Cx} {Γ : List Slot} {α β κ γ : Type} {i : Rep α} [ik : Rep κ] [DecidableEq κ] [dk : DKey κ] {j : Rep β} {lr : Rep γ} {pos p p2 p3 pos2 : Pos} {e a b c : Expr} {es : List Expr} {E : SE} {rest : List Stmt} {n f1 f2 : Str} {C ad dx da : Addr} {x : α} {l : List (κ × β)}
theorem ev_cfld (k : Nat) (hc : Cls X.K C) (hn : NoAttr X.K C f1) (hg : autoParam (Γ[k]? = some (.own (ownC i j f1 f2 C ad dx da x l))) aRfl) (hN : autoParam (X.N[k]? = some n) aRfl)
    (hv : autoParam (Vis X.env.scope n) aVis) (hd : autoParam ((n == ("__debug__" : Str)) = false) aDec) (hcd : autoParam ((n == ("__classdict__" : Str)) = false) aDec) (hb : autoParam (attributeBase (.Name n p) f1 X.env (eval (.Name n p) X.env) = eval (.Name n p) X.env) aRfl) : EV X Γ (.Attribute (.Name n p) f1 pos) x := fun B F H σ Q L q => by
  obtain ⟨v, ev, ⟨rfl, _, h1, ⟨v1, h2, r⟩, _⟩, _⟩ := slot_own L hg
  exact WE.of (pe_fld (pe_var hN hv hd hcd) hb) ⟨_, ev, ad, C, dx, _, v1, rfl, h2, hc, hn, lookup_eq, q v1 F H (Ext.refl L.same) r⟩
theorem et_cnotin (k : Nat) {key : κ} {kk : Nat} (hr : Room kk X.A) (hne : f1 ≠ f2) (hc : Cls X.K C) (hn : NoAttr X.K C f2) (hb : EV X Γ b key) (hg : autoParam (Γ[k]? = some (.own (ownC i j f1 f2 C ad dx da x l))) aRfl) (hN : autoParam (X.N[k]? = some n) aRfl)
    (hv : autoParam (Vis X.env.scope n) aVis) (hd : autoParam ((n == ("__debug__" : Str)) = false) aDec) (hcd : autoParam ((n == ("__classdict__" : Str)) = false) aDec) (hbs : autoParam (attributeBase (.Name n p) f2 X.env (eval (.Name n p) X.env) = eval (.Name n p) X.env) aRfl) (hm : behindInMarks .NotIn (.Attribute (.Name n p) f2 pos2) = false := by first | exact nomark _ | rfl) :
    ET X Γ (.Compare b [.NotIn] [.Attribute (.Name n p) f2 pos2] pos) (!(look l key).isSome) := fun B F H σ Q L q =>
  WT.of (pt_cmp (pc_dnotin (by have := hr.units; omega) peW (pe_fld (pe_var hN hv hd hcd) hbs)) hm) (hb B F H σ _ L fun u F1 H1 e1 r1 => by
    have L1 := L.step e1
    obtain ⟨v, ev, ⟨rfl, _, h1, ⟨v1, h2, r⟩, kvs, h3, pr⟩, _⟩ := slot_own L1 hg
    refine ⟨_, ev, ad, C, dx, _, .ref da, rfl, h2, hc, hn, by rw [lookup_ne hne.symm, lookup_eq], da, _, rfl, dk.get L1.same h3 r1, _, rfl, ?_⟩
    have eo : (valV kvs key).isSome = (look l key).isSome := by
      cases hy : look l key with
      | none => rw [(DRel.val pr).1 hy]; rfl
      | some y => obtain ⟨w, hw, _⟩ := (DRel.val pr).2 y hy; rw [hw]; rfl
    rw [eo]
    exact q F1 H1 e1)
theorem ev_cget (k : Nat) {key : κ} {y : β} {kk : Nat} (hr : Room kk X.A) (hne : f1 ≠ f2) (hc : Cls X.K C) (hn : NoAttr X.K C f2) (hb : EV X Γ b key) (hy : look l key = some y) (hg : autoParam (Γ[k]? = some (.own (ownC i j f1 f2 C ad dx da x l))) aRfl) (hN : autoParam (X.N[k]? = some n) aRfl)
    (hv : autoParam (Vis X.env.scope n) aVis) (hd : autoParam ((n == ("__debug__" : Str)) = false) aDec) (hcd : autoParam ((n == ("__classdict__" : Str)) = false) aDec) (hbs : autoParam (attributeBase (.Name n p) f2 X.env (eval (.Name n p) X.env) = eval (.Name n p) X.env) aRfl) (hp : autoParam (NoSl b) Tw.aIR2) :
    EV X Γ (.Subscript (.Attribute (.Name n p) f2 pos2) b pos) y := fun B F H σ Q L q => by
  obtain ⟨v, ev, ⟨rfl, _, h1, ⟨v1, h2, r⟩, _⟩, _⟩ := slot_own L hg
  refine WE.of (pe_dget (by have := hr.units; omega) (pe_fld (pe_var hN hv hd hcd) hbs) peW hp) ⟨_, ev, ad, C, dx, _, .ref da, rfl, h2, hc, hn, by rw [lookup_ne hne.symm, lookup_eq], hb B F H σ _ L fun u F1 H1 e1 r1 => ?_⟩
  have L1 := L.step e1
  obtain ⟨_, _, ⟨_, _, _, _, kvs, h3, pr⟩, _⟩ := slot_own L1 hg
  obtain ⟨w, hw, rw'⟩ := (DRel.val pr).2 y hy
  refine ⟨da, w, rfl, ?_, q w F1 H1 e1 rw'⟩
  rw [← hw]
  exact dk.get L1.same h3 r1
theorem st_cput (k : Nat) {key : κ} {y : β} {kk : Nat} {sp : Pos} (hr0 : Room kk X.A) (hne : f1 ≠ f2) (hc : Cls X.K C) (hn : NoAttr X.K C f2) (he : EV X Γ e y) (hi : EV X Γ b key) (hz : l.length < sizeLine) (hr : ST X rest (Γ.set k (.own (ownC i j f1 f2 C ad dx da x (put l key y)))) E) (hg : autoParam (Γ[k]? = some (.own (ownC i j f1 f2 C ad dx da x l))) aRfl) (hN : autoParam (X.N[k]? = some n) aRfl)
    (hv : autoParam (Vis X.env.scope n) aVis) (hd : autoParam ((n == ("__debug__" : Str)) = false) aDec) (hcd : autoParam ((n == ("__classdict__" : Str)) = false) aDec) (hbs : autoParam (attributeBase (.Name n p) f2 X.env (eval (.Name n p) X.env) = eval (.Name n p) X.env) aRfl)
    (hs : autoParam (swapsWith e (some (.Subscript (.Attribute (.Name n p) f2 pos2) b sp)) pos.line X.env = pure false) aRfl) :
    ST X (.Assign [.Subscript (.Attribute (.Name n p) f2 pos2) b sp] e pos :: rest) Γ E := fun B F H σ D L ed => by
  refine WP.cons (ps_dput (by have := hr0.units; omega) (pe_fld (pe_var hN hv hd hcd) hbs) peW peW hs) (he B F H σ _ L fun v F1 H1 e1 r1 => ?_)
  have L1 := L.step e1
  obtain ⟨v0, ev, ⟨rfl, _, h1, ⟨v1, h2, r⟩, _⟩, _⟩ := slot_own L1 hg
  refine ⟨_, ev, ad, C, dx, _, .ref da, rfl, h2, hc, hn, by rw [lookup_ne hne.symm, lookup_eq], hi B F1 H1 σ _ L1 fun u F2 H2 e2 r2 => ?_⟩
  have L2 := L1.step e2
  obtain ⟨v2, ev2, ⟨_, ⟨n1, n2, n3⟩, g1, ⟨w1, g2, gr⟩, kvs, h3, pr⟩, _⟩ := slot_own L2 hg
  have hl : kvs.length < sizeLine := by rw [Paired.length pr]; exact hz
  refine ⟨da, _, rfl, dk.put L2.same h3 r2 hl, hr B F2 _ σ D (L2.updO hg ev (fun b w hb q => ?_) (fun b hb => ?_) (fun b hb => .inl hb) ⟨rfl, ⟨n1, n2, n3⟩, ?_, ⟨w1, ?_, gr⟩, _, upd_same, DRel.put pr (j.mono e2.ff r1)⟩) (ed.weak (e1.trans e2).ff)⟩
  · rw [upd_ne fun z => hb (by rw [z]; show da ∈ [ad, dx, da]; simp)]; exact q
  · have hb' : b = ad ∨ b = dx ∨ b = da := by
      have : b ∈ [ad, dx, da] := hb
      simpa using this
    rcases hb' with rfl | rfl | rfl
    · rw [upd_ne n2, g2]; exact fun z => nomatch z
    · rw [upd_ne n3, g1]; exact fun z => nomatch z
    · rw [upd_same]; exact fun z => nomatch z
  · rw [upd_ne n3]; exact g1
  · rw [upd_ne n2]; exact g2
theorem st_cinit (k : Nat) {p' : Pos} (κ : Type) [ik : Rep κ] [DecidableEq κ] [dk : DKey κ] {β : Type} (j : Rep β) (hr : ∀ da, ST X rest (Γ.set k (.own (ownC i j f1 f2 C ad dx da x ([] : List (κ × β))))) E) (hne : f1 ≠ f2) (hc : Cls X.K C) (hn : NoAttr X.K C f2)
    (hg : autoParam (Γ[k]? = some (.own (ownI C ad dx [(f1, .val i x)]))) aRfl) (hN : autoParam (X.N[k]? = some n) aRfl) (hv : autoParam (Vis X.env.scope n) aVis) (hd : autoParam ((n == ("__debug__" : Str)) = false) aDec) (hcd : autoParam ((n == ("__classdict__" : Str)) = false) aDec)
    (hs : autoParam (swapsWith (.Dict [] [] p3) (some (.Attribute (.Name n p) f2 p')) pos.line X.env = pure false) aRfl) : ST X (.Assign [.Attribute (.Name n p) f2 p'] (.Dict [] [] p3) pos :: rest) Γ E := fun B F H σ D L ed => by
  obtain ⟨v, ev, ok, _⟩ := slot_own L hg
  obtain ⟨rfl, _⟩ := ok
  refine WP.cons (ps_fld (pe_var hN hv hd hcd) peW hs) (exo_dict κ j B F H σ _ L fun r u F1 H1 er e1 ok => ⟨_, ev, ?_⟩)
  subst er
  obtain ⟨o, ⟨da, rfl⟩, new, ⟨rfl, kvs, h3, pr⟩⟩ := ok
  have hda := new da (List.mem_singleton.mpr rfl)
  have L1 := L.step e1
  obtain ⟨v', ev', ⟨_, nn, h1, fv, h2, r⟩, f1'⟩ := slot_own L1 hg
  obtain ⟨_, _, ⟨_, _, g1, fv0, g2, _⟩, _⟩ := slot_own L hg
  have hHda : H da = none := hda.1
  have n2 : ad ≠ da := fun z => by rw [z, hHda] at g2; cases g2
  have n3 : dx ≠ da := fun z => by rw [z, hHda] at g1; cases g1
  match fv, r with
  | [(g, w)], r =>
  obtain ⟨rfl, rw1, _⟩ := r
  refine ⟨ad, C, dx, [(g, w)], rfl, h2, hc, hn, by simp, ?_⟩
  have ep : putF f2 (V.ref da) [(g, w)] = [(g, w), (f2, .ref da)] := by rw [putF_new (by rw [lookup_ne hne.symm]; rfl)]; rfl
  rw [ep]
  refine hr da B F1 _ σ D (L1.updO2 hg ev (fun b u hb q => ?_) (fun b hb => ?_) (fun b hb => ?_) ⟨rfl, ⟨nn, n2, n3⟩, ?_, ⟨w, upd_same, rw1⟩, kvs, ?_, pr⟩) (ed.weak e1.ff)
  · rw [upd_ne (fun z => hb (by rw [z]; show ad ∈ [ad, dx]; simp))]; exact q
  · by_cases hba : b = ad
    · rw [hba, upd_same]; exact fun z => nomatch z
    · rw [upd_ne hba]
      have hb' : b = ad ∨ b = dx := by
        have : b ∈ [ad, dx] := hb
        simpa using this
      rcases hb' with rfl | rfl
      · exact absurd rfl hba
      · rw [h1]; exact fun z => nomatch z
  · have hb' : b = ad ∨ b = dx ∨ b = da := by
      have : b ∈ [ad, dx, da] := hb
      simpa using this
    rcases hb' with rfl | rfl | rfl
    · exact .inl (by show b ∈ [b, dx]; simp)
    · exact .inl (by show b ∈ [ad, b]; simp)
    · exact .inr ⟨hda.2, L.nw hHda, fun q o2 hq => L.ne_own hHda hq⟩
  · rw [upd_ne (Ne.symm nn)]; exact h1
  · rw [upd_ne (Ne.symm n2)]; exact h3
theorem eg_methC (k : Nat) {m cn : Str} {kk : Nat} {ps : List Str} {S : Spec} {A : List Slot} {P : Ret → List Slot → Prop} {R : Exn → List Slot → Prop} {G : γ → Own → Prop} {apos : Pos} {pl : Sem Bool} (hc : OC X.K X.mg cn) (GH : HasM X.prog X.w X.K X.mg X.base kk cn m ps S) (hr : Room kk X.A)
    (hC : PySem.W.nsIn X.K mainGlobals cn = some (some (.ref C))) (hm1 : m ≠ f1) (hm2 : m ≠ f2) (ha : EA X Γ (e :: es) A) (hA : noOwn A = true) (hg : Γ[k]? = some (.own (ownC i j f1 f2 C ad dx da x l)))
    (hG : ∀ x' o', G x' o' → o'.root = V.ref ad) (hP : ∀ x' o', G x' o' → P (.val lr x') (Γ.set k (.own o'))) (hS : ∀ P' R', (∀ x' o', G x' o' → P' (.chg lr x' [o'])) → (∀ y, R y (Γ.set k .no) → R' y) → S (.own (ownC i j f1 f2 C ad dx da x l) :: A) P' R')
    (hN : autoParam (X.N[k]? = some n) aRfl) (hv : autoParam (Vis X.env.scope n) aVis) (hd : autoParam ((n == ("__debug__" : Str)) = false) aDec) (hcd : autoParam ((n == ("__classdict__" : Str)) = false) aDec)
    (hst : autoParam (starEach (e :: es) X.env = (false, eval e X.env) :: starEach es X.env) aStar) (hpl : autoParam ((backTo pos (starEach es X.env)).any (·.1) = false) aPl)
    (ht : autoParam (eval (.Call (.Attribute (.Name n p) m apos) (e :: es) [] pos) X.env = (do
      let ov ← eval (.Name n p) X.env
      standAt apos.atName
      let (f, first) ← holding [ov] (getMethod ov m pl)
      callWith pos f first (backTo pos (starEach (e :: es) X.env)) (backToKw pos (keywordEach [] X.env)))) aRfl) : EG X Γ (.Call (.Attribute (.Name n p) m apos) (e :: es) [] pos) P R := fun B F H σ Q L q z => by
  obtain ⟨C', kC, gC⟩ := hc
  obtain rfl := ns_one kC.ns hC
  obtain ⟨f, fd, hM, hb, GF⟩ := GH.ex C kC.ns
  obtain ⟨v, ev, ok, fo⟩ := slot_own L hg
  obtain ⟨rfl, ne, h1, ⟨v1, h2, r1⟩, _⟩ := id ok
  refine ⟨fun pins s I => ?_⟩
  refine PySem.W.methodCall_KW (pl := pl) (thn ((pe_var (pos := p) hN hv hd hcd).run pins s σ H (fun v' H1 => v' = .ref ad ∧ H1 = H) I ⟨.ref ad, ev, rfl, rfl⟩) fun u s1 ⟨v', H1, I1, rv1, e1, e2⟩ => ?_) ht
  subst e1 e2
  obtain rfl : u = Value.ref ad := rv1
  refine getmeth_ok I1 h2 kC.cl hM (by rw [lookup_ne hm1, lookup_ne hm2]; rfl) ?_
  refine PySem.W.callWith_K (first := [.ref ad]) (h₀ := X.base) I.ok.mod.kin hM.kp (thn ((ha B F _ σ (fun vs H2 => ∃ F2, Ext F H1 F2 H2 ∧ VsOk X.K F2 vs A) L (fun vs F2 H2 e2 r2 => ⟨F2, e2, r2⟩)).go pos pins s1 I1) fun us s2 ⟨vs, H2, I2, rvs, F2, e2, r2⟩ => ⟨I2.kIn, ?_⟩) hst hpl
  have rA : VsOkO X.K F2 H2 (.ref ad :: vs) (.own (ownC i j f1 f2 C ad dx da x l) :: A) := ⟨(ownC i j f1 f2 C ad dx da x l).stay e2.ff (fun b _ u z => e2.hs _ _ z) ok, fun b hb => e2.nw b (fo b hb).1 ((ownC i j f1 f2 C ad dx da x l).there ok b hb), r2.toO⟩
  refine run_fnS (E := fun σ cls d H => XW X cls d σ H) (us := .ref ad :: us) (vs := .ref ad :: vs) GF hr hb (passAt takesW σ) I2 (.cons rfl rvs) ?_
  exact ⟨F2, _, (L.step e2).same, rA, apart_one hA, hS _ _ (fun x' o' hx => borrow_rets hg L e2 (fun b m => ma_one hA m) hG hP q hx) fun y hy => borrow_exns hg L e2 (fun b m => ma_one hA m) z hy⟩
theorem eg_binR {op : Operator} {α' β' γ' : Type} {i' : Rep α'} {j' : Rep β'} {l' : Rep γ'} {x : α'} {N : β' → List Slot → Prop} {g : β' → γ'} (o : ∀ y Γ', N y Γ' → OB X (binaryOp op) x y (g y)) (ha : EV X Γ a x) (hb : EG X Γ b (fun r Γ' => ∃ y, N y Γ' ∧ r = .val j' y) (fun _ _ => False)) :
    EG X Γ (.BinOp a op b pos) (fun r Γ' => ∃ z, (∃ y, N y Γ' ∧ z = g y) ∧ r = .val l' z) (fun _ _ => False) := fun B F H σ Q L q _ =>
  WE.of (pe_op opW peW peW) (ha B F H σ _ L fun v F1 H1 e1 r1 => hb B F1 H1 σ _ (L.step e1) (fun r u F2 H2 Γ2 ⟨y, hy, er⟩ s2 L2 r2 => by
    subst er
    refine o y Γ2 hy F2 H2 v u Q L2.same (i'.mono s2 r1) r2 fun w F3 H3 e3 r3 => ?_
    exact q (.val l' (g y)) w F3 H3 Γ2 ⟨g y, ⟨y, hy, rfl⟩, rfl⟩ (e1.ff.trans (s2.trans e3.ff)) (L2.step e3) r3) fun x u d F1 H1 Γ2 z _ _ _ => z.elim)
theorem eg_pairR {α' β' : Type} {i' : Rep α'} {j' : Rep β'} {kk : Nat} {x : α'} {N : β' → List Slot → Prop} (ha : EV X Γ a x) (hb : EG X Γ b (fun r Γ' => ∃ y, N y Γ' ∧ r = .val j' y) (fun _ _ => False)) (hs : autoParam (starEach [a, b] X.env = (false, eval a X.env) :: starEach [b] X.env) aStar) (hs2 : autoParam (starEach [b] X.env = (false, eval b X.env) :: starEach [] X.env) aStar) :
    EG X Γ (.Tuple [a, b] kk pos) (fun r Γ' => ∃ z, (∃ y, N y Γ' ∧ z = (x, y)) ∧ r = .val (repPair (i := i') (j := j')) z) (fun _ _ => False) := fun B F H σ Q L q _ =>
  WE.of (pe_tup (pa_cons peW (pa_cons peW pa_nil hs2) hs)) (ha B F H σ _ L fun v F1 H1 e1 r1 => hb B F1 H1 σ _ (L.step e1) (fun r u F2 H2 Γ2 ⟨y, hy, er⟩ s2 L2 r2 => by
    subst er
    refine ⟨by show 2 ≤ sizeLine; decide, fun t ht => ?_⟩
    have ea := Ext.new (o := .tup [v, u]) L2.same ht
    exact q (.val repPair (x, y)) (.ref t) _ _ Γ2 ⟨(x, y), ⟨y, hy, rfl⟩, rfl⟩ (e1.ff.trans (s2.trans ea.ff)) (L2.step ea) ⟨t, v, u, rfl, upd_same, i'.mono (s2.trans ea.ff) r1, j'.mono ea.ff r2⟩) fun x u d F1 H1 Γ2 z _ _ _ => z.elim)
theorem st_retGC (k : Nat) {γ' : Type} {l' : Rep γ'} {G : γ' → Own → Prop} (he : EG X Γ e (fun r Γ' => ∃ z o, G z o ∧ r = .val l' z ∧ Γ'[k]? = some (.own o)) (fun _ _ => False)) (hP : ∀ z o, G z o → E.rt (.chg l' z [o])) : ST X (.Return (some e) pos :: rest) Γ E := fun B F H σ D L ed =>
  WP.cons (ps_ret peW) (he B F H σ _ L (fun r v F1 H1 Γ1 ⟨z, o, hG, er, hk⟩ s1 L1 r1 => by
    subst er
    obtain ⟨u, _, ok, f⟩ := slot_own L1 hk
    have eu := o.rt ok
    subst eu
    refine ed.rt (.chg l' z [o]) v F1 H1 (hP z o hG) L1.ext ⟨r1, fun o' ho => ?_, by simp⟩
    rw [List.mem_singleton.mp ho]
    exact ⟨ok, fun b hb => ⟨(f b hb).2, (f b hb).1⟩⟩) fun _ _ _ _ _ _ z => z.elim)
theorem eg_imp {P P' : Ret → List Slot → Prop} {R : Exn → List Slot → Prop} (h : EG X Γ e P R) (f : ∀ r Γ', P r Γ' → P' r Γ') : EG X Γ e P' R := fun B F H σ Q L q z => h B F H σ Q L (fun r v F' H' Γ' hp s L' ok => q r v F' H' Γ' (f r Γ' hp) s L' ok) z
theorem ev_makeMeth {m cn : Str} {kk k0 : Nat} {ps ps0 : List Str} {S S0 : Spec} {A A0 : List Slot} {y : γ} {e0 : Expr} {es0 : List Expr} {apos cpos : Pos} {pl : Sem Bool} (hc : OC X.K X.mg cn) (G0 : HasM X.prog X.w X.K X.mg X.base k0 cn "__init__" ps0 S0) (GH : HasM X.prog X.w X.K X.mg X.base kk cn m ps S) (hr0 : Room (k0 + 1) X.A) (hr : Room kk X.A) (hne : f1 ≠ f2) (hm1 : m ≠ f1) (hm2 : m ≠ f2)
    (ha0 : EA X Γ (e0 :: es0) A0) (hA0 : noOwn A0 = true) (ha : EA X Γ (e :: es) A) (hA : noOwn A = true)
    (hS0 : ∀ C, PySem.W.nsIn X.K mainGlobals cn = some (some (.ref C)) → ∀ ad dx, ∀ P' R', (∀ da, P' (.chg repUnit () [ownC i j f1 f2 C ad dx da x ([] : List (κ × β))])) → S0 (.own (ownI C ad dx []) :: A0) P' R')
    (hS : ∀ C ad dx da P' R', PySem.W.nsIn X.K mainGlobals cn = some (some (.ref C)) → (∀ o', P' (.chg lr y [o'])) → S (.own (ownC i j f1 f2 C ad dx da x ([] : List (κ × β))) :: A) P' R')
    (hgl : autoParam (Gl X cn) aRfl) (hd : autoParam ((cn == ("__debug__" : Str)) = false) aDec) (he0 : autoParam (starEach (e0 :: es0) X.env = (false, eval e0 X.env) :: starEach es0 X.env) aStar) (hpl0 : autoParam ((backTo cpos (starEach es0 X.env)).any (·.1) = false) aPl)
    (hst : autoParam (starEach (e :: es) X.env = (false, eval e X.env) :: starEach es X.env) aStar) (hpl : autoParam ((backTo pos (starEach es X.env)).any (·.1) = false) aPl)
    (ht : autoParam (eval (.Call (.Attribute (.Call (.Name cn p) (e0 :: es0) [] cpos) m apos) (e :: es) [] pos) X.env = (do
      let ov ← eval (.Call (.Name cn p) (e0 :: es0) [] cpos) X.env
      standAt apos.atName
      let (f, first) ← holding [ov] (getMethod ov m pl)
      callWith pos f first (backTo pos (starEach (e :: es) X.env)) (backToKw pos (keywordEach [] X.env)))) aRfl) : EV X Γ (.Call (.Attribute (.Call (.Name cn p) (e0 :: es0) [] cpos) m apos) (e :: es) [] pos) y := fun B F H σ Q L q => by
  obtain ⟨C, kC, gC⟩ := hc
  have mk : WE X (.Call (.Name cn p) (e0 :: es0) [] cpos) σ H (fun v H1 => ∃ F1 ad dx da, v = .ref ad ∧ Ext F H F1 H1 ∧ (∀ b ∈ [ad, dx, da], H b = none ∧ F1 b = none) ∧ (ownC i j f1 f2 C ad dx da x ([] : List (κ × β))).ok X.K F1 H1 (.ref ad)) := by
    obtain ⟨f, fd, hM, hb, GF⟩ := G0.ex C kC.ns
    have M : Mk X.K C f := ⟨kC.mks, hM.at_, hM.fn, kC.kp⟩
    refine ⟨fun pins s I => ?_⟩
    refine wpAny_Call_Name_kw (ld_glob I hgl gC ?_ hd)
    refine PySem.W.callWith_K (h₀ := X.base) I.ok.mod.kin kC.kp (thn ((ha0 B F H σ (fun vs H1 => ∃ F1, Ext F H F1 H1 ∧ VsOk X.K F1 vs A0) L (fun vs F1 H1 e1 r1 => ⟨F1, e1, r1⟩)).go cpos pins s I) fun us s1 ⟨vs, H1, I1, rvs, F1, e1, r1⟩ => ⟨I1.kIn, ?_⟩) he0 hpl0
    refine run_makeS (EE := fun cls d H => XW X cls d σ H) M GF hr0 hb (passAt takesW σ) I1 rvs fun ad dx had hdx hne' => ?_
    have s1' := (L.step e1).same
    have ea : Ext F1 H1 F1 (upd (upd H1 dx (.own ad)) ad (.ins C dx [])) := by
      have x1 := Ext.apart (o := .own ad) s1' hdx
      exact x1.trans (Ext.apart (o := .ins C dx []) x1.fh (by rw [upd_ne (Ne.symm hne')]; exact had))
    have maN : ∀ b, MA (.own (ownI C ad dx []) :: A0) b → H1 b = none := fun b m => by
      have hb := ma_one hA0 m
      have hb' : b = ad ∨ b = dx := by
        have : b ∈ [ad, dx] := hb
        simpa using this
      rcases hb' with rfl | rfl
      · exact had
      · exact hdx
    have fN : ∀ b ∈ [ad, dx], F1 b = none := fun b hb => by
      have hb' : b = ad ∨ b = dx := by simpa using hb
      rcases hb' with rfl | rfl
      · exact s1'.free had
      · exact s1'.free hdx
    have toExt : ∀ {F2 H2}, ExtM (MA (.own (ownI C ad dx []) :: A0)) F1 (upd (upd H1 dx (.own ad)) ad (.ins C dx [])) F2 H2 → Ext F H F2 H2 := fun {F2 H2} x => e1.trans (ea.thenM x maN)
    have toN : ∀ b, Bs.nw ⟨F1, upd (upd H1 dx (.own ad)) ad (.ins C dx []), MA (.own (ownI C ad dx []) :: A0)⟩ b → H b = none := fun b h => h.elim (fun w => e1.hs.free (ea.hs.free w)) fun m => e1.hs.free (maN b m)
    refine ⟨F1, .own (ownI C ad dx []) :: A0, ea.fh, ⟨⟨rfl, Ne.symm hne', ?_, [], upd_same, trivial⟩, fN, r1.toO⟩, apart_one hA0, hS0 C kC.ns ad dx _ _ fun da v F2 H2 x2 ok => ?_⟩
    · rw [upd_ne hne', upd_same]
    · obtain ⟨rv0, fo, _⟩ := ok
      obtain ⟨ok', f'⟩ := fo _ (List.mem_singleton.mpr rfl)
      exact ⟨rv0, F2, ad, dx, da, rfl, toExt x2, fun b hb => ⟨toN b (f' b hb).1, (f' b hb).2⟩, ok'⟩
  obtain ⟨f, fd, hM, hb, GF⟩ := GH.ex C kC.ns
  refine ⟨fun pins s I => ?_⟩
  refine PySem.W.methodCall_KW (pl := pl) (thn (mk.go pins s I) fun u s1 ⟨v, H1, I1, rv1, F1, ad, dx, da, ev, e1, new, ok⟩ => ?_) ht
  subst ev
  obtain rfl : u = Value.ref ad := rv1
  obtain ⟨_, ne, h1, ⟨v1, h2, r1⟩, _⟩ := id ok
  refine getmeth_ok I1 h2 kC.cl hM (by rw [lookup_ne hm1, lookup_ne hm2]; rfl) ?_
  have L1 := L.step e1
  refine PySem.W.callWith_K (first := [.ref ad]) (h₀ := X.base) I.ok.mod.kin hM.kp (thn ((ha B F1 H1 σ (fun vs H2 => ∃ F2, Ext F1 H1 F2 H2 ∧ VsOk X.K F2 vs A) L1 (fun vs F2 H2 e2 r2 => ⟨F2, e2, r2⟩)).go pos pins s1 I1) fun us s2 ⟨vs, H2, I2, rvs, F2, e2, r2⟩ => ⟨I2.kIn, ?_⟩) hst hpl
  have nw2 : ∀ b ∈ [ad, dx, da], F2 b = none := fun b hb => e2.nw b (new b hb).2 ((ownC i j f1 f2 C ad dx da x ([] : List (κ × β))).there ok b hb)
  have rA : VsOkO X.K F2 H2 (.ref ad :: vs) (.own (ownC i j f1 f2 C ad dx da x ([] : List (κ × β))) :: A) := ⟨(ownC i j f1 f2 C ad dx da x ([] : List (κ × β))).stay e2.ff (fun b _ u z => e2.hs _ _ z) ok, nw2, r2.toO⟩
  refine run_fnS (E := fun σ cls d H => XW X cls d σ H) (us := .ref ad :: us) (vs := .ref ad :: vs) GF hr hb (passAt takesW σ) I2 (.cons rfl rvs) ?_
  refine ⟨F2, _, (L1.step e2).same, rA, apart_one hA, hS C ad dx da _ _ kC.ns fun o' v F3 H3 x3 ok3 => ?_⟩
  have maN : ∀ b, MA (.own (ownC i j f1 f2 C ad dx da x ([] : List (κ × β))) :: A) b → H b = none := fun b m => (new b (ma_one hA m)).1
  have x3' : Ext F H F3 H3 := (e1.trans e2).thenM x3 maN
  exact q v F3 H3 x3' ok3.1
end
end Tw
namespace Tw
open PySem PySem.Spec PyProof.Rows L2 TL
end Tw
namespace Tw
open PySem PySem.Spec PyProof.Rows L2 TL
section
variable {K : PySem.W.Frag} {B : Bs} {F H F' H' : Hp} {σ : L2.St} {Γ : List Slot} {M : Addr → Prop}
theorem Lc.back2 (L : Lc K B F H σ Γ) (e : ExtM M F H F' H') {k1 k2 : Nat} {o1 o1' o2 o2' : Own} (hne : k1 ≠ k2) (hg1 : Γ[k1]? = some (.own o1)) (hg2 : Γ[k2]? = some (.own o2)) (hM : ∀ b, M b → b ∈ o1.fp ∨ b ∈ o2.fp)
    (ok1 : o1'.ok K F' H' o1'.root) (f1 : ∀ b ∈ o1'.fp, (H b = none ∨ M b) ∧ F' b = none) (hr1 : o1'.root = o1.root) (ok2 : o2'.ok K F' H' o2'.root) (f2 : ∀ b ∈ o2'.fp, (H b = none ∨ M b) ∧ F' b = none) (hr2 : o2'.root = o2.root) (dj : ∀ b ∈ o1'.fp, b ∉ o2'.fp) :
    Lc K B F' H' σ ((Γ.set k1 (.own o1')).set k2 (.own o2')) := by
  obtain ⟨v1, ev1, kk1, g1⟩ := slot_own L hg1
  obtain ⟨v2, ev2, kk2, g2⟩ := slot_own L hg2
  have nwM : ∀ b, M b → B.nw b := fun b m => (hM b m).elim (fun h => (g1 b h).2) fun h => (g2 b h).2
  have here : ∀ b u, ¬ B.M b → B.H b = some u → ¬ M b := fun b u nb q m => (nwM b m).elim (fun z => by rw [z] at q; cases q) nb
  have oth : ∀ (q : Nat) o, k1 ≠ q → k2 ≠ q → Γ[q]? = some (.own o) → ∀ b ∈ o.fp, ¬ M b := fun q o n1 n2 hq b hb m => (hM b m).elim (fun h => L.ap k1 q o1 o n1 hg1 hq b h hb) fun h => L.ap k2 q o2 o n2 hg2 hq b h hb
  have dis : ∀ (q : Nat) o, k1 ≠ q → k2 ≠ q → Γ[q]? = some (.own o) → ∀ b, (H b = none ∨ M b) → b ∉ o.fp := fun q o n1 n2 hq b h hb => h.elim (fun w => L.ne_own w hq hb) fun m => oth q o n1 n2 hq b hb m
  have nws : ∀ b, (H b = none ∨ M b) → B.nw b := fun b h => h.elim (fun w => L.nw w) (nwM b)
  refine ⟨⟨L.ext.ff.trans e.ff, e.fh, fun b u nb q => e.hh b u (here b u nb q) (L.ext.hh b u nb q), fun b nb h1 h2 => ?_, fun b hb h => ?_⟩, by simp [L.len], fun q t hq => ?_, fun i j oa ob hij h1 h2 b ha hb => ?_⟩
  · cases q : B.H b with
    | none => exact absurd q h2
    | some u => exact e.nwM b (here b u nb q) (L.ext.nwM b nb h1 h2) (by rw [L.ext.hh b u nb q]; exact fun z => nomatch z)
  · have := L.ext.th b hb h
    by_cases m : M b
    · exact e.th b m this
    · cases q : H b with
      | none => exact absurd q this
      | some u => rw [e.hh b u m q]; exact fun z => nomatch z
  · rcases get_set_slot hq with ⟨e1, _, rfl⟩ | ⟨e1, hq⟩
    · subst e1
      rw [ev2]
      refine ⟨v2, rfl, by rw [o2.rt kk2, ← hr2]; exact ok2, fun b hb => ⟨(f2 b hb).2, nws b (f2 b hb).1⟩⟩
    rcases get_set_slot hq with ⟨e2, _, rfl⟩ | ⟨e2, hq⟩
    · subst e2
      rw [ev1]
      refine ⟨v1, rfl, by rw [o1.rt kk1, ← hr1]; exact ok1, fun b hb => ⟨(f1 b hb).2, nws b (f1 b hb).1⟩⟩
    · have old := L.ok q t hq
      cases t with
      | no => trivial
      | val i x => obtain ⟨v, e2, r⟩ := old; exact ⟨v, e2, i.mono e.ff r⟩
      | own o =>
        obtain ⟨u, eu, ok, f⟩ := old
        have nM := oth q o e2 e1 hq
        exact ⟨u, eu, o.stay e.ff (fun b hb w z => e.hh b w (nM b hb) z) ok, fun b hb => ⟨e.nwM b (nM b hb) (f b hb).1 (o.there ok b hb), (f b hb).2⟩⟩
  · rcases get_set_slot h1 with ⟨e1, _, ea⟩ | ⟨e1, h1⟩
    · cases ea
      rcases get_set_slot h2 with ⟨e3, _, eb⟩ | ⟨e3, h2⟩
      · exact hij (e1.symm.trans e3)
      rcases get_set_slot h2 with ⟨e4, _, eb⟩ | ⟨e4, h2⟩
      · cases eb; exact dj b hb ha
      · exact dis j ob e4 e3 h2 b (f2 b ha).1 hb
    rcases get_set_slot h1 with ⟨e2, _, ea⟩ | ⟨e2, h1⟩
    · cases ea
      rcases get_set_slot h2 with ⟨e3, _, eb⟩ | ⟨e3, h2⟩
      · cases eb; exact dj b ha hb
      rcases get_set_slot h2 with ⟨e4, _, eb⟩ | ⟨e4, h2⟩
      · exact hij (e2.symm.trans e4)
      · exact dis j ob e4 e3 h2 b (f1 b ha).1 hb
    · rcases get_set_slot h2 with ⟨e3, _, eb⟩ | ⟨e3, h2⟩
      · cases eb; exact dis i oa e2 e1 h1 b (f2 b hb).1 ha
      rcases get_set_slot h2 with ⟨e4, _, eb⟩ | ⟨e4, h2⟩
      · cases eb; exact dis i oa e2 e1 h1 b (f1 b hb).1 ha
      · exact L.ap i j oa ob hij h1 h2 b ha hb
end
theorem ma_two {o1 o2 : Own} {A : List Slot} (h : noOwn A = true) {b : Addr} (m : MA (.own o1 :: .own o2 :: A) b) : b ∈ o1.fp ∨ b ∈ o2.fp := by
  rcases MA_cons m with ⟨o', z, hb⟩ | m
  · cases z; exact .inl hb
  · exact .inr (ma_one h m)
noncomputable abbrev finU2 (Q : Ret → Prop) : SE := ⟨fun Γ => ∃ o1 o2, Γ[0]? = some (.own o1) ∧ Γ[1]? = some (.own o2) ∧ Q (.chg repUnit () [o1, o2]), Q, fun _ => False, fun _ => False, fun _ _ => False⟩
section
variable {P : Program} {w : World} {K : PySem.W.Frag} {mg : Str → Option Value} {base : Heap}
theorem Has.ofU2 {n : Str} {st : Stmt} {N ps : List Str} {k : Nat} {S : Spec} (D : Df K mg n st ps) (sc : FnScope N ps (defScope st)) (len : ∀ A Q R, S A Q R → A.length = ps.length)
    (body : ∀ (f : Addr) (cdv : Value) (A : Around) (outer : List Env) (s : Shared) (H : Hp) (E : XK), Room k (A.deeper (envOfC n (defScope st) s.heap.objs.size f cdv)) → ∀ Γ Q R, S Γ Q R →
      ST (cxOf (L2.CX P w) P w K mg base N n (defScope st) f cdv A outer s H E).nox (defBody st) (Γ ++ List.replicate (N.length - ps.length) .no) (finU2 Q)) :
    Has P w K mg base (k + 1) n ps S := by
  obtain ⟨f, fd, F, hb, hm⟩ := D.ex
  refine ⟨f, fd, hm, F.kp, hb, F.okX sc (fun vs H Q E ⟨F0, A, s, r, ap, h⟩ => ?_) (fun cdv A outer s H vs Q E hr h => ?_)⟩
  · rw [r.len]; exact len _ _ _ h
  · obtain ⟨F0, A0, sm, r, ap, h⟩ := h
    refine ⟨_, psW.nox, ?_⟩
    have hl := len _ _ _ h
    have L0 := lc_start (K := K) sm r ap (N.length - ps.length)
    have L1 : Lc K ⟨F0, H, MA A0⟩ F0 H (L2.start N vs) (A0 ++ List.replicate (N.length - ps.length) .no) := by
      unfold L2.start
      rw [show vs.length = ps.length from r.len.trans hl]
      exact L0
    refine body f cdv A outer s H E hr A0 _ _ h ⟨F0, H, MA A0⟩ F0 H _ _ L1 ⟨fun F' H' σ' Γ' _ hq L => ?_, fun r v F' H' hq ex ok => hq v F' H' ex ok, fun _ _ _ _ _ z => z.elim, fun _ _ _ _ _ z => z.elim, fun _ _ _ _ _ _ _ _ z => z.elim⟩
    obtain ⟨o1, o2, hg1, hg2, hq⟩ := hq
    obtain ⟨v, ev, ok', f'⟩ := slot_own L hg1
    obtain ⟨v2, ev2, ok2, f2⟩ := slot_own L hg2
    refine hq .non F' H' L.ext ⟨rfl, fun o3 h3 => ?_, List.pairwise_pair.mpr (L.ap 0 1 o1 o2 (by decide) hg1 hg2)⟩
    rcases List.mem_cons.mp h3 with e | h3
    · rw [e]; exact ⟨by rw [← o1.rt ok']; exact ok', fun b hb => ⟨(f' b hb).2, (f' b hb).1⟩⟩
    · rw [List.mem_singleton.mp h3]; exact ⟨by rw [← o2.rt ok2]; exact ok2, fun b hb => ⟨(f2 b hb).2, (f2 b hb).1⟩⟩
end
section
variable {X : Cx} {Γ : List Slot} {α β γ δ ε : Type} {i : Rep α} {j : Rep β} {l : Rep γ} {m : Rep δ} {m5 : Rep ε} {pos p p2 : Pos} {e a b c : Expr} {es : List Expr} {E : SE} {rest body : List Stmt}
theorem st_retU2 (k1 k2 : Nat) {o1 o2 : Own} (hk : k1 ≠ k2) (hP : E.rt (.chg repUnit () [o1, o2])) (hg1 : autoParam (Γ[k1]? = some (.own o1)) aRfl) (hg2 : autoParam (Γ[k2]? = some (.own o2)) aRfl) : ST X (.Return none pos :: rest) Γ E := fun B F H σ D L ed => by
  obtain ⟨v, ev, ok', f'⟩ := slot_own L hg1
  obtain ⟨v2, ev2, ok2, f2⟩ := slot_own L hg2
  refine WP.cons ps_retN (ed.rt (.chg repUnit () [o1, o2]) _ F H hP L.ext ⟨rfl, fun o3 h3 => ?_, List.pairwise_pair.mpr (L.ap k1 k2 o1 o2 hk hg1 hg2)⟩)
  rcases List.mem_cons.mp h3 with e | h3
  · rw [e]; exact ⟨by rw [← o1.rt ok']; exact ok', fun b hb => ⟨(f' b hb).2, (f' b hb).1⟩⟩
  · rw [List.mem_singleton.mp h3]; exact ⟨by rw [← o2.rt ok2]; exact ok2, fun b hb => ⟨(f2 b hb).2, (f2 b hb).1⟩⟩
theorem eg_call2 (k1 k2 : Nat) {n : Str} {kk : Nat} {ps : List Str} {S : Spec} {o1 o2 : Own} {A : List Slot} {P : Ret → List Slot → Prop} {G : α → Own → Own → Prop} (hne : k1 ≠ k2) (GH : Has X.prog X.w X.K X.mg X.base kk n ps S) (hr : Room kk X.A) (ha : EAb X Γ (e :: es) (.own o1 :: .own o2 :: A)) (hA : noOwn A = true) (hg1 : Γ[k1]? = some (.own o1)) (hg2 : Γ[k2]? = some (.own o2))
    (hG : ∀ x o1' o2', G x o1' o2' → o1'.root = o1.root ∧ o2'.root = o2.root) (hP : ∀ x o1' o2', G x o1' o2' → P (.val i x) ((Γ.set k1 (.own o1')).set k2 (.own o2'))) (hS : ∀ P' R', (∀ x o1' o2', G x o1' o2' → P' (.chg i x [o1', o2'])) → S (.own o1 :: .own o2 :: A) P' R') (hgl : autoParam (Gl X n) aRfl) (hd : autoParam ((n == ("__debug__" : Str)) = false) aDec)
    (he : autoParam (starEach (e :: es) X.env = (false, eval e X.env) :: starEach es X.env) aStar) (hpl : autoParam ((backTo pos (starEach es X.env)).any (·.1) = false) aPl) : EG X Γ (.Call (.Name n p) (e :: es) [] pos) P (fun _ _ => False) := fun B F H σ Q L q z => by
  obtain ⟨f, fd, hm, hk, hb, GF⟩ := GH.ex
  refine WE.of (pe_callS (E := fun σ cls d H => XW X cls d σ H) GF hr hgl hm hk hb (fun σ => passAt takesW σ) paW hd he hpl) (ha B F H σ _ L fun vs F1 H1 e1 r1 => ?_)
  have L1 := L.step e1
  have ap : Apart (.own o1 :: .own o2 :: A) := Apart.tail (apart_one hA) fun o eo b hb m => by
    cases eo
    exact L.ap k1 k2 o1 o2 hne hg1 hg2 b hb (ma_one hA m)
  refine ⟨F1, _, L1.same, r1, ap, hS _ _ fun x o1' o2' hx v F2 H2 e2 ok => ?_⟩
  obtain ⟨rx, fo, pw⟩ := ok
  obtain ⟨ok1, f1⟩ := fo o1' (List.mem_cons_self ..)
  obtain ⟨ok2, f2⟩ := fo o2' (List.mem_cons_of_mem _ (List.mem_singleton.mpr rfl))
  obtain ⟨h1, h2⟩ := hG x o1' o2' hx
  exact q (.val i x) v F2 H2 _ (hP x o1' o2' hx) (e1.ff.trans e2.ff) (L1.back2 e2 hne hg1 hg2 (fun b m => ma_two hA m) ok1 (fun b hb => f1 b hb) h1 ok2 (fun b hb => f2 b hb) h2 (List.pairwise_pair.mp pw)) rx
theorem pg5 (k1 k2 k3 k4 k5 : Nat) {n1 n2 n3 n4 n5 : Str} {q1 q2 q3 q4 q5 tp : Pos} {kk} (h1 : PG X (.Name n1 q1) (gName k1)) (h2 : PG X (.Name n2 q2) (gName k2)) (h3 : PG X (.Name n3 q3) (gName k3)) (h4 : PG X (.Name n4 q4) (gName k4)) (h5 : PG X (.Name n5 q5) (gName k5)) (hc : autoParam (X.calm = true) aRfl)
    (a1 : autoParam ((assignEach [.Name n1 q1, .Name n2 q2, .Name n3 q3, .Name n4 q4, .Name n5 q5] X.env).map (·.2) = assign (.Name n1 q1) X.env :: (assignEach [.Name n2 q2, .Name n3 q3, .Name n4 q4, .Name n5 q5] X.env).map (·.2)) aRfl)
    (a2 : autoParam ((assignEach [.Name n2 q2, .Name n3 q3, .Name n4 q4, .Name n5 q5] X.env).map (·.2) = assign (.Name n2 q2) X.env :: (assignEach [.Name n3 q3, .Name n4 q4, .Name n5 q5] X.env).map (·.2)) aRfl)
    (a3 : autoParam ((assignEach [.Name n3 q3, .Name n4 q4, .Name n5 q5] X.env).map (·.2) = assign (.Name n3 q3) X.env :: (assignEach [.Name n4 q4, .Name n5 q5] X.env).map (·.2)) aRfl)
    (a4 : autoParam ((assignEach [.Name n4 q4, .Name n5 q5] X.env).map (·.2) = assign (.Name n4 q4) X.env :: (assignEach [.Name n5 q5] X.env).map (·.2)) aRfl)
    (a5 : autoParam ((assignEach [.Name n5 q5] X.env).map (·.2) = assign (.Name n5 q5) X.env :: (assignEach [] X.env).map (·.2)) aRfl)
    (hn : autoParam ((assignEach [.Name n1 q1, .Name n2 q2, .Name n3 q3, .Name n4 q4, .Name n5 q5] X.env).length = 5) aRfl) (hst : autoParam ((assignEach [.Name n1 q1, .Name n2 q2, .Name n3 q3, .Name n4 q4, .Name n5 q5] X.env).findIdx? (·.1) = none) aRfl) :
    PG X (.Tuple [.Name n1 q1, .Name n2 q2, .Name n3 q3, .Name n4 q4, .Name n5 q5] kk tp) (gTup X.K 5 (gCons (gName k1) (gCons (gName k2) (gCons (gName k3) (gCons (gName k4) (gCons (gName k5) gNil)))))) :=
  pg_tup hc (pgs_cons h1 (pgs_cons h2 (pgs_cons h3 (pgs_cons h4 (pgs_cons h5 pgs_nil a5) a4) a3) a2) a1) hn hst
theorem st_unpack5X {α' : Type} [t : HetT α'] (k1 k2 k3 k4 k5 : Nat) {n1 n2 n3 n4 n5 : Str} {x : α'} {x1 : α} {x2 : β} {x3 : γ} {x4 : δ} {x5 : ε} {q1 q2 q3 q4 q5 tp : Pos} {kk} (he : EV X Γ e x) (hr : ST X rest (((((Γ.set k1 (.val i x1)).set k2 (.val j x2)).set k3 (.val l x3)).set k4 (.val m x4)).set k5 (.val m5 x5)) E)
    (hg : PG X (.Tuple [.Name n1 q1, .Name n2 q2, .Name n3 q3, .Name n4 q4, .Name n5 q5] kk tp) (gTup X.K 5 (gCons (gName k1) (gCons (gName k2) (gCons (gName k3) (gCons (gName k4) (gCons (gName k5) gNil))))))) (hx : autoParam (t.els x = [.val i x1, .val j x2, .val l x3, .val m x4, .val m5 x5]) aRfl)
    (hs : autoParam (swapsWithSole [.Tuple [.Name n1 q1, .Name n2 q2, .Name n3 q3, .Name n4 q4, .Name n5 q5] kk tp] e pos.line X.env = pure false) aRfl) (hw : autoParam (swappedStores [.Tuple [.Name n1 q1, .Name n2 q2, .Name n3 q3, .Name n4 q4, .Name n5 q5] kk tp] e X.env = pure none) aRfl)
    (h1 : autoParam ((assignEach [.Tuple [.Name n1 q1, .Name n2 q2, .Name n3 q3, .Name n4 q4, .Name n5 q5] kk tp] X.env).map (·.2) = [assign (.Tuple [.Name n1 q1, .Name n2 q2, .Name n3 q3, .Name n4 q4, .Name n5 q5] kk tp) X.env]) aRfl) :
    ST X (.Assign [.Tuple [.Name n1 q1, .Name n2 q2, .Name n3 q3, .Name n4 q4, .Name n5 q5] kk tp] e pos :: rest) Γ E := fun B F H σ D L ed =>
  WP.cons (ps_asg peW hg hs hw h1) (he B F H σ _ L fun v F1 H1 e1 r1 => by
    obtain ⟨ad, vs, rfl, ha, pr⟩ := r1
    have L1 := L.step e1
    rw [hx] at pr
    match vs, pr with
    | [v1, v2, v3, v4, v5], ⟨p1, p2, p3, p4, p5, _⟩ =>
      exact ⟨ad, _, rfl, st_of L1.same ha, rfl, v1, _, rfl, v2, _, rfl, v3, _, rfl, v4, _, rfl, v5, _, rfl, rfl, hr B F1 H1 _ D (((((L1.putV k1 p1).putV k2 p2).putV k3 p3).putV k4 p4).putV k5 p5) (ed.weak e1.ff)⟩)
end
end Tw
namespace Tw
open PySem PySem.Spec PyProof.Rows L2 TL
section
variable {X : Cx} {Γ Γ1 : List Slot} {α β γ : Type} {i : Rep α} {j : Rep β} {l : Rep γ} {pos p p2 p3 pos2 : Pos} {e a b c elt tg it : Expr} {es : List Expr} {E : SE} {rest body : List Stmt}
theorem eg_ev {x : α} (h : EV X Γ e x) : EG X Γ e (fun r Γ' => ∃ y, (y = x ∧ Γ' = Γ) ∧ r = .val i y) (fun _ _ => False) := fun B F H σ Q L q _ =>
  h B F H σ Q L fun v F1 H1 e1 r1 => q (.val i x) v F1 H1 Γ ⟨x, ⟨rfl, rfl⟩, rfl⟩ e1.ff (L.step e1) r1
theorem eg_bin2 {op : Operator} {N : α → List Slot → Prop} {M : α → β → List Slot → Prop} {g : α → β → γ} (o : ∀ x y Γ', M x y Γ' → OB X (binaryOp op) x y (g x y)) (ha : EG X Γ a (fun r Γ' => ∃ x, N x Γ' ∧ r = .val i x) (fun _ _ => False)) (hb : ∀ x Γ', N x Γ' → EG X Γ' b (fun r Γ'' => ∃ y, M x y Γ'' ∧ r = .val j y) (fun _ _ => False)) :
    EG X Γ (.BinOp a op b pos) (fun r Γ' => ∃ z, (∃ x y, M x y Γ' ∧ z = g x y) ∧ r = .val l z) (fun _ _ => False) := fun B F H σ Q L q _ =>
  WE.of (pe_op opW peW peW) (ha B F H σ _ L (fun r0 v F1 H1 Γ1 ⟨x, hx, er0⟩ s1 L1 r1 => by
    subst er0
    refine hb x Γ1 hx B F1 H1 σ _ L1 (fun r u F2 H2 Γ2 ⟨y, hy, er⟩ s2 L2 r2 => ?_) fun x u d F1 H1 Γ2 z _ _ _ => z.elim
    subst er
    refine o x y Γ2 hy F2 H2 v u Q L2.same (i.mono s2 r1) r2 fun w F3 H3 e3 r3 => ?_
    exact q (.val l (g x y)) w F3 H3 Γ2 ⟨g x y, ⟨x, y, hy, rfl⟩, rfl⟩ (s1.trans (s2.trans e3.ff)) (L2.step e3) r3) fun x u d F1 H1 Γ2 z _ _ _ => z.elim)
theorem eg_d2R [h1 : IsD α] [h2 : IsD β] [hl : IsD γ] {kk : Nat} {x : α} {N : β → List Slot → Prop} {g : β → γ} (he : ∀ y, hl.d (g y) = .t [h1.d x, h2.d y]) (ha : EV X Γ a x) (hb : EG X Γ b (fun r Γ' => ∃ y, N y Γ' ∧ r = .val j y) (fun _ _ => False)) (hs : autoParam (starEach [a, b] X.env = (false, eval a X.env) :: starEach [b] X.env) aStar) (hs2 : autoParam (starEach [b] X.env = (false, eval b X.env) :: starEach [] X.env) aStar) :
    EG X Γ (.Tuple [a, b] kk pos) (fun r Γ' => ∃ z, (∃ y, N y Γ' ∧ z = g y) ∧ r = .val l z) (fun _ _ => False) := fun B F H σ Q L q _ =>
  WE.of (pe_tup (pa_cons peW (pa_cons peW pa_nil hs2) hs)) (ha B F H σ _ L fun v F1 H1 e1 r1 => hb B F1 H1 σ _ (L.step e1) (fun r u F2 H2 Γ2 ⟨y, hy, er⟩ s2 L2 r2 => by
    subst er
    refine ⟨by show 2 ≤ sizeLine; decide, fun t ht => ?_⟩
    have ea := Ext.new (o := .tup [v, u]) L2.same ht
    refine q (.val l (g y)) (.ref t) _ _ Γ2 ⟨g y, ⟨y, hy, rfl⟩, rfl⟩ (e1.ff.trans (s2.trans ea.ff)) (L2.step ea) (hl.iff.mpr ?_)
    rw [he, rpD]
    refine ⟨t, [v, u], rfl, upd_same, ?_⟩
    rw [rpDs]
    refine ⟨v, [u], rfl, h1.iff.mp (i.mono (s2.trans ea.ff) r1), ?_⟩
    rw [rpDs]
    exact ⟨u, [], rfl, h2.iff.mp (j.mono ea.ff r2), by rw [rpDs]⟩) fun x u d F1 H1 Γ2 z _ _ _ => z.elim)
theorem eg_d3R {δ : Type} {m : Rep δ} [h1 : IsD α] [h2 : IsD β] [h3 : IsD δ] [hl : IsD γ] {kk : Nat} {x : α} {x2 : δ} {N : β → List Slot → Prop} {g : β → γ} (he : ∀ y, hl.d (g y) = .t [h1.d x, h3.d x2, h2.d y]) (ha : EV X Γ a x) (hm : EV X Γ b x2) (hb : EG X Γ c (fun r Γ' => ∃ y, N y Γ' ∧ r = .val j y) (fun _ _ => False)) (hs : autoParam (starEach [a, b, c] X.env = (false, eval a X.env) :: starEach [b, c] X.env) aStar) (hs1 : autoParam (starEach [b, c] X.env = (false, eval b X.env) :: starEach [c] X.env) aStar) (hs2 : autoParam (starEach [c] X.env = (false, eval c X.env) :: starEach [] X.env) aStar) :
    EG X Γ (.Tuple [a, b, c] kk pos) (fun r Γ' => ∃ z, (∃ y, N y Γ' ∧ z = g y) ∧ r = .val l z) (fun _ _ => False) := fun B F H σ Q L q _ =>
  WE.of (pe_tup (pa_cons peW (pa_cons peW (pa_cons peW pa_nil hs2) hs1) hs)) (ha B F H σ _ L fun v F1 H1 e1 r1 => hm B F1 H1 σ _ (L.step e1) fun v' F1' H1' e1' r1' => hb B F1' H1' σ _ ((L.step e1).step e1') (fun r u F2 H2 Γ2 ⟨y, hy, er⟩ s2 L2 r2 => by
    subst er
    refine ⟨by show 3 ≤ sizeLine; decide, fun t ht => ?_⟩
    have ea := Ext.new (o := .tup [v, v', u]) L2.same ht
    refine q (.val l (g y)) (.ref t) _ _ Γ2 ⟨g y, ⟨y, hy, rfl⟩, rfl⟩ (e1.ff.trans (e1'.ff.trans (s2.trans ea.ff))) (L2.step ea) (hl.iff.mpr ?_)
    rw [he, rpD]
    refine ⟨t, [v, v', u], rfl, upd_same, ?_⟩
    rw [rpDs]
    refine ⟨v, [v', u], rfl, h1.iff.mp (i.mono (e1'.ff.trans (s2.trans ea.ff)) r1), ?_⟩
    rw [rpDs]
    refine ⟨v', [u], rfl, h3.iff.mp (m.mono (s2.trans ea.ff) r1'), ?_⟩
    rw [rpDs]
    exact ⟨u, [], rfl, h2.iff.mp (j.mono ea.ff r2), by rw [rpDs]⟩) fun x u d F1 H1 Γ2 z _ _ _ => z.elim)
end
end Tw
namespace Tw
open PySem PySem.Spec PyProof.Rows L2 TL
section
variable {X : Cx} {Γ : List Slot} {α β γ κ δ : Type} {i : Rep α} {j : Rep β} {lr : Rep γ} [ik : Rep κ] [DecidableEq κ] [dk : DKey κ] {pos p : Pos} {e : Expr} {es : List Expr} {f1 f2 : Str} {x : α}
theorem ex_makeC {cn : Str} {k0 : Nat} {ps0 : List Str} {S0 : Spec} {A0 : List Slot} {e0 : Expr} {es0 : List Expr} {cpos : Pos} (hc : OC X.K X.mg cn) (G0 : HasM X.prog X.w X.K X.mg X.base k0 cn "__init__" ps0 S0) (hr0 : Room (k0 + 1) X.A)
    (ha0 : EA X Γ (e0 :: es0) A0) (hA0 : noOwn A0 = true)
    (hS0 : ∀ C, PySem.W.nsIn X.K mainGlobals cn = some (some (.ref C)) → ∀ ad dx, ∀ P' R', (∀ da, P' (.chg repUnit () [ownC i j f1 f2 C ad dx da x ([] : List (κ × β))])) → S0 (.own (ownI C ad dx []) :: A0) P' R')
    (hgl : autoParam (Gl X cn) aRfl) (hd : autoParam ((cn == ("__debug__" : Str)) = false) aDec) (he0 : autoParam (starEach (e0 :: es0) X.env = (false, eval e0 X.env) :: starEach es0 X.env) aStar) (hpl0 : autoParam ((backTo cpos (starEach es0 X.env)).any (·.1) = false) aPl) :
    EX X Γ (.Call (.Name cn p) (e0 :: es0) [] cpos) (fun r => r = .own fun o => ∃ C ad dx da, PySem.W.nsIn X.K mainGlobals cn = some (some (.ref C)) ∧ o = ownC i j f1 f2 C ad dx da x ([] : List (κ × β))) := fun B F H σ Q L q => by
  obtain ⟨C, kC, gC⟩ := hc
  obtain ⟨f, fd, hM, hb, GF⟩ := G0.ex C kC.ns
  have M : Mk X.K C f := ⟨kC.mks, hM.at_, hM.fn, kC.kp⟩
  refine ⟨fun pins s I => ?_⟩
  refine wpAny_Call_Name_kw (ld_glob I hgl gC ?_ hd)
  refine PySem.W.callWith_K (h₀ := X.base) I.ok.mod.kin kC.kp (thn ((ha0 B F H σ (fun vs H1 => ∃ F1, Ext F H F1 H1 ∧ VsOk X.K F1 vs A0) L (fun vs F1 H1 e1 r1 => ⟨F1, e1, r1⟩)).go cpos pins s I) fun us s1 ⟨vs, H1, I1, rvs, F1, e1, r1⟩ => ⟨I1.kIn, ?_⟩) he0 hpl0
  refine run_makeS (EE := fun cls d H => XW X cls d σ H) M GF hr0 hb (passAt takesW σ) I1 rvs fun ad dx had hdx hne' => ?_
  have s1' := (L.step e1).same
  have ea : Ext F1 H1 F1 (upd (upd H1 dx (.own ad)) ad (.ins C dx [])) := by
    have x1 := Ext.apart (o := .own ad) s1' hdx
    exact x1.trans (Ext.apart (o := .ins C dx []) x1.fh (by rw [upd_ne (Ne.symm hne')]; exact had))
  have maN : ∀ b, MA (.own (ownI C ad dx []) :: A0) b → H1 b = none := fun b m => by
    have hb := ma_one hA0 m
    have hb' : b = ad ∨ b = dx := by
      have : b ∈ [ad, dx] := hb
      simpa using this
    rcases hb' with rfl | rfl
    · exact had
    · exact hdx
  have fN : ∀ b ∈ [ad, dx], F1 b = none := fun b hb => by
    have hb' : b = ad ∨ b = dx := by simpa using hb
    rcases hb' with rfl | rfl
    · exact s1'.free had
    · exact s1'.free hdx
  have toExt : ∀ {F2 H2}, ExtM (MA (.own (ownI C ad dx []) :: A0)) F1 (upd (upd H1 dx (.own ad)) ad (.ins C dx [])) F2 H2 → Ext F H F2 H2 := fun {F2 H2} x => e1.trans (ea.thenM x maN)
  have toN : ∀ b, Bs.nw ⟨F1, upd (upd H1 dx (.own ad)) ad (.ins C dx []), MA (.own (ownI C ad dx []) :: A0)⟩ b → H b = none := fun b h => h.elim (fun w => e1.hs.free (ea.hs.free w)) fun m => e1.hs.free (maN b m)
  refine ⟨F1, .own (ownI C ad dx []) :: A0, ea.fh, ⟨⟨rfl, Ne.symm hne', ?_, [], upd_same, trivial⟩, fN, r1.toO⟩, apart_one hA0, hS0 C kC.ns ad dx _ _ fun da v F2 H2 x2 ok => ?_⟩
  · rw [upd_ne hne', upd_same]
  · obtain ⟨rv0, fo, _⟩ := ok
    obtain ⟨ok', f'⟩ := fo _ (List.mem_singleton.mpr rfl)
    exact ⟨rv0, q (.own fun o => ∃ C ad dx da, PySem.W.nsIn X.K mainGlobals cn = some (some (.ref C)) ∧ o = ownC i j f1 f2 C ad dx da x ([] : List (κ × β))) (.ref ad) F2 H2 rfl (toExt x2) ⟨_, ⟨C, ad, dx, da, kC.ns, rfl⟩, fun b hb => ⟨toN b (f' b hb).1, (f' b hb).2⟩, ok'⟩⟩
end
end Tw
namespace Tw
open PySem PySem.Spec PyProof.Rows L2 TL
section
variable {X : Cx} {Γ : List Slot} {α β κ γ : Type} {i : Rep α} [ik : Rep κ] [DecidableEq κ] [dk : DKey κ] {j : Rep β} {lr : Rep γ} {pos p p2 p3 pos2 : Pos} {e a b c : Expr} {es : List Expr} {E : SE} {rest : List Stmt} {n f1 f2 : Str} {C ad dx da : Addr} {x : α} {l : List (κ × β)}
theorem exx_makeMeth {m cn : Str} {kk k0 : Nat} {ps ps0 : List Str} {S S0 : Spec} {A A0 : List Slot} {G : γ → Prop} {R : Exn → Prop} {e0 : Expr} {es0 : List Expr} {apos cpos : Pos} {pl : Sem Bool} (hc : OC X.K X.mg cn) (G0 : HasM X.prog X.w X.K X.mg X.base k0 cn "__init__" ps0 S0) (GH : HasM X.prog X.w X.K X.mg X.base kk cn m ps S) (hr0 : Room (k0 + 1) X.A) (hr : Room kk X.A) (hne : f1 ≠ f2) (hm1 : m ≠ f1) (hm2 : m ≠ f2)
    (ha0 : EA X Γ (e0 :: es0) A0) (hA0 : noOwn A0 = true) (ha : EA X Γ (e :: es) A) (hA : noOwn A = true)
    (hS0 : ∀ C, PySem.W.nsIn X.K mainGlobals cn = some (some (.ref C)) → ∀ ad dx, ∀ P' R', (∀ da, P' (.chg repUnit () [ownC i j f1 f2 C ad dx da x ([] : List (κ × β))])) → S0 (.own (ownI C ad dx []) :: A0) P' R')
    (hS : ∀ C ad dx da P' R', PySem.W.nsIn X.K mainGlobals cn = some (some (.ref C)) → (∀ y o', G y → P' (.chg lr y [o'])) → (∀ z, R z → R' z) → S (.own (ownC i j f1 f2 C ad dx da x ([] : List (κ × β))) :: A) P' R')
    (hgl : autoParam (Gl X cn) aRfl) (hd : autoParam ((cn == ("__debug__" : Str)) = false) aDec) (he0 : autoParam (starEach (e0 :: es0) X.env = (false, eval e0 X.env) :: starEach es0 X.env) aStar) (hpl0 : autoParam ((backTo cpos (starEach es0 X.env)).any (·.1) = false) aPl)
    (hst : autoParam (starEach (e :: es) X.env = (false, eval e X.env) :: starEach es X.env) aStar) (hpl : autoParam ((backTo pos (starEach es X.env)).any (·.1) = false) aPl)
    (ht : autoParam (eval (.Call (.Attribute (.Call (.Name cn p) (e0 :: es0) [] cpos) m apos) (e :: es) [] pos) X.env = (do
      let ov ← eval (.Call (.Name cn p) (e0 :: es0) [] cpos) X.env
      standAt apos.atName
      let (f, first) ← holding [ov] (getMethod ov m pl)
      callWith pos f first (backTo pos (starEach (e :: es) X.env)) (backToKw pos (keywordEach [] X.env)))) aRfl) : EXX X Γ (.Call (.Attribute (.Call (.Name cn p) (e0 :: es0) [] cpos) m apos) (e :: es) [] pos) (fun r => ∃ y, G y ∧ r = .val lr y) R := fun B F H σ Q L q z => by
  obtain ⟨C, kC, gC⟩ := hc
  have mk : WE X (.Call (.Name cn p) (e0 :: es0) [] cpos) σ H (fun v H1 => ∃ F1 ad dx da, v = .ref ad ∧ Ext F H F1 H1 ∧ (∀ b ∈ [ad, dx, da], H b = none ∧ F1 b = none) ∧ (ownC i j f1 f2 C ad dx da x ([] : List (κ × β))).ok X.K F1 H1 (.ref ad)) := by
    obtain ⟨f, fd, hM, hb, GF⟩ := G0.ex C kC.ns
    have M : Mk X.K C f := ⟨kC.mks, hM.at_, hM.fn, kC.kp⟩
    refine ⟨fun pins s I => ?_⟩
    refine wpAny_Call_Name_kw (ld_glob I hgl gC ?_ hd)
    refine PySem.W.callWith_K (h₀ := X.base) I.ok.mod.kin kC.kp (thn ((ha0 B F H σ (fun vs H1 => ∃ F1, Ext F H F1 H1 ∧ VsOk X.K F1 vs A0) L (fun vs F1 H1 e1 r1 => ⟨F1, e1, r1⟩)).go cpos pins s I) fun us s1 ⟨vs, H1, I1, rvs, F1, e1, r1⟩ => ⟨I1.kIn, ?_⟩) he0 hpl0
    refine run_makeS (EE := fun cls d H => XW X cls d σ H) M GF hr0 hb (passAt takesW σ) I1 rvs fun ad dx had hdx hne' => ?_
    have s1' := (L.step e1).same
    have ea : Ext F1 H1 F1 (upd (upd H1 dx (.own ad)) ad (.ins C dx [])) := by
      have x1 := Ext.apart (o := .own ad) s1' hdx
      exact x1.trans (Ext.apart (o := .ins C dx []) x1.fh (by rw [upd_ne (Ne.symm hne')]; exact had))
    have maN : ∀ b, MA (.own (ownI C ad dx []) :: A0) b → H1 b = none := fun b m => by
      have hb := ma_one hA0 m
      have hb' : b = ad ∨ b = dx := by
        have : b ∈ [ad, dx] := hb
        simpa using this
      rcases hb' with rfl | rfl
      · exact had
      · exact hdx
    have fN : ∀ b ∈ [ad, dx], F1 b = none := fun b hb => by
      have hb' : b = ad ∨ b = dx := by simpa using hb
      rcases hb' with rfl | rfl
      · exact s1'.free had
      · exact s1'.free hdx
    have toExt : ∀ {F2 H2}, ExtM (MA (.own (ownI C ad dx []) :: A0)) F1 (upd (upd H1 dx (.own ad)) ad (.ins C dx [])) F2 H2 → Ext F H F2 H2 := fun {F2 H2} x => e1.trans (ea.thenM x maN)
    have toN : ∀ b, Bs.nw ⟨F1, upd (upd H1 dx (.own ad)) ad (.ins C dx []), MA (.own (ownI C ad dx []) :: A0)⟩ b → H b = none := fun b h => h.elim (fun w => e1.hs.free (ea.hs.free w)) fun m => e1.hs.free (maN b m)
    refine ⟨F1, .own (ownI C ad dx []) :: A0, ea.fh, ⟨⟨rfl, Ne.symm hne', ?_, [], upd_same, trivial⟩, fN, r1.toO⟩, apart_one hA0, hS0 C kC.ns ad dx _ _ fun da v F2 H2 x2 ok => ?_⟩
    · rw [upd_ne hne', upd_same]
    · obtain ⟨rv0, fo, _⟩ := ok
      obtain ⟨ok', f'⟩ := fo _ (List.mem_singleton.mpr rfl)
      exact ⟨rv0, F2, ad, dx, da, rfl, toExt x2, fun b hb => ⟨toN b (f' b hb).1, (f' b hb).2⟩, ok'⟩
  obtain ⟨f, fd, hM, hb, GF⟩ := GH.ex C kC.ns
  refine ⟨fun pins s I => ?_⟩
  refine PySem.W.methodCall_KW (pl := pl) (thn (mk.go pins s I) fun u s1 ⟨v, H1, I1, rv1, F1, ad, dx, da, ev, e1, new, ok⟩ => ?_) ht
  subst ev
  obtain rfl : u = Value.ref ad := rv1
  obtain ⟨_, ne, h1, ⟨v1, h2, r1⟩, _⟩ := id ok
  refine getmeth_ok I1 h2 kC.cl hM (by rw [lookup_ne hm1, lookup_ne hm2]; rfl) ?_
  have L1 := L.step e1
  refine PySem.W.callWith_K (first := [.ref ad]) (h₀ := X.base) I.ok.mod.kin hM.kp (thn ((ha B F1 H1 σ (fun vs H2 => ∃ F2, Ext F1 H1 F2 H2 ∧ VsOk X.K F2 vs A) L1 (fun vs F2 H2 e2 r2 => ⟨F2, e2, r2⟩)).go pos pins s1 I1) fun us s2 ⟨vs, H2, I2, rvs, F2, e2, r2⟩ => ⟨I2.kIn, ?_⟩) hst hpl
  have nw2 : ∀ b ∈ [ad, dx, da], F2 b = none := fun b hb => e2.nw b (new b hb).2 ((ownC i j f1 f2 C ad dx da x ([] : List (κ × β))).there ok b hb)
  have rA : VsOkO X.K F2 H2 (.ref ad :: vs) (.own (ownC i j f1 f2 C ad dx da x ([] : List (κ × β))) :: A) := ⟨(ownC i j f1 f2 C ad dx da x ([] : List (κ × β))).stay e2.ff (fun b _ u z => e2.hs _ _ z) ok, nw2, r2.toO⟩
  refine run_fnS (E := fun σ cls d H => XW X cls d σ H) (us := .ref ad :: us) (vs := .ref ad :: vs) GF hr hb (passAt takesW σ) I2 (.cons rfl rvs) ?_
  have maN : ∀ b, MA (.own (ownC i j f1 f2 C ad dx da x ([] : List (κ × β))) :: A) b → H b = none := fun b m => (new b (ma_one hA m)).1
  refine ⟨F2, _, (L1.step e2).same, rA, apart_one hA, hS C ad dx da _ _ kC.ns (fun y o' hy v F3 H3 x3 ok3 => ?_) fun x' hx u d F3 H3 x3 ok => ?_⟩
  · exact q (.val lr y) v F3 H3 ⟨y, hy, rfl⟩ ((e1.trans e2).thenM x3 maN) ok3.1
  · exact z x' u d F3 H3 hx ((e1.trans e2).thenM x3 maN) (ok.imp fun b h => h.elim (fun w => (e1.trans e2).hs.free w) fun m => maN b m)
end
section
variable {X : Cx} {Γ : List Slot} {α β γ : Type} {i : Rep α} {j : Rep β} {pos p : Pos} {e a b c it tg : Expr} {E : SE} {rest body : List Stmt}
noncomputable def ETGX (X : Cx) (Γ : List Slot) (c : Expr) (N : Bool → List Slot → Prop) (R : Exn → List Slot → Prop) : Prop :=
  ∀ B F H σ Q, Lc X.K B F H σ Γ → (∀ k F' H' Γ', N k Γ' → Same F F' → Lc X.K B F' H' σ Γ' → Q k H') → (∀ x u d F' H' Γ', R x Γ' → Same F F' → Lc X.K B F' H' σ Γ' → XOk X.K (fun b => B.nw b ∧ Free Γ' b) F' H' u d x → XW X u d σ H') → WT X c σ H Q
theorem etgx_cmp {op : CmpOp} {N : α → List Slot → Prop} {R : Exn → List Slot → Prop} {y : β} {z : α → Bool} (o : ∀ x, OB X (compareOp op) x y (z x)) (ha : EG X Γ a (fun r Γ' => ∃ x, N x Γ' ∧ r = .val i x) R) (hb : ∀ x Γ', N x Γ' → EV X Γ' b y) (hm : behindInMarks op b = false := by first | exact nomark _ | rfl) :
    ETGX X Γ (.Compare a [op] [b] pos) (fun k Γ' => ∃ x, N x Γ' ∧ k = z x) R := fun B F H σ Q L q zx =>
  WT.of (pt_cmpR opW peW peW hm) (ha B F H σ _ L (fun r v F1 H1 Γ1 ⟨x, hx, er⟩ s1 L1 r1 => by
    subst er
    exact hb x Γ1 hx B F1 H1 σ _ L1 fun u F2 H2 e2 r2 => o x F2 H2 v u _ (L1.step e2).same (i.mono e2.ff r1) r2 fun w F3 H3 e3 r3 => ⟨z x, r3, q (z x) F3 H3 Γ1 ⟨x, hx, rfl⟩ (s1.trans (e2.ff.trans e3.ff)) ((L1.step e2).step e3)⟩) zx)
theorem st_ifGX {N : Bool → List Slot → Prop} {R : Exn → List Slot → Prop} {A C : List Stmt} (hc : ETGX X Γ c N R) (hA : ∀ Γ', N true Γ' → ST X A Γ' { E with nx := fun Γ' => ST X rest Γ' E }) (hC : ∀ Γ', N false Γ' → ST X C Γ' { E with nx := fun Γ' => ST X rest Γ' E }) (hR : ∀ x Γ', R x Γ' → E.ex Γ' x) : ST X (.If c A C pos :: rest) Γ E := fun B F H σ D L ed =>
  WP.cons (ps_if ptW psW psW) (hc B F H σ _ L (fun k F1 H1 Γ1 hN s1 L1 => by
    cases k with
    | true => exact hA Γ1 hN B F1 H1 σ _ L1 ((ed.weak s1).seq)
    | false => exact hC Γ1 hN B F1 H1 σ _ L1 ((ed.weak s1).seq)) fun x u d F1 H1 Γ1 hx s1 L1 ok => ed.ex F1 H1 σ Γ1 x u d s1 (hR x Γ1 hx) L1 ok)
theorem st_forR {R : Exn → Prop} {g : TG} (he : EXX X Γ it (fun _ => False) R) (hR : ∀ x, R x → E.ex Γ x) (hg : PG X tg g) (hp : autoParam (PassesOwn (model X.prog X.w) X.A X.env X.xe) Tw.aPass) (hc : autoParam (X.calm = true) aRfl) (hs : autoParam (∀ x, foldedSetIterable it X.env x = pure x) Tw.aIR1) :
    ST X (.For tg it body [] pos :: rest) Γ E := fun B F H σ D L ed =>
  WP.cons (ps_for hp hc (pi_list peW) hg psW hs) (he B F H σ _ L (fun _ _ _ _ z _ _ => z.elim) fun x u d F1 H1 hx e1 ok => ed.exS (Same.refl F) (hR x hx) L e1 ok)
end
end Tw
namespace Tw
open PySem PySem.Spec PyProof.Rows L2 TL
end Tw
namespace Law
open PySem PySem.Spec PyProof.Rows L2 TL Tw
noncomputable def topS (i : Nat) : Stmt := PySem.Challenge.pw_quiltlaw_k35_numbers_refused.main.body.getD i (.Pass ⟨0, 0, 0, 0⟩)
noncomputable def clsS (i j : Nat) : Stmt := clsBody (topS i) j
noncomputable abbrev s_size_of : Stmt := topS 11
noncomputable abbrev N_size_of : List Str := ["picture"]
theorem sc_size_of : FnScope N_size_of ["picture"] (defScope s_size_of) := ⟨rfl, rfl, rfl, by decide +kernel, rfl, by decide +kernel, by decide +kernel⟩
noncomputable abbrev s_beside : Stmt := topS 12
noncomputable abbrev N_beside : List Str := ["one", "other", "left", "right"]
theorem sc_beside : FnScope N_beside ["one", "other"] (defScope s_beside) := ⟨rfl, rfl, rfl, by decide +kernel, rfl, by decide +kernel, by decide +kernel⟩
noncomputable abbrev bk_beside := @L2.blkOk_by N_beside (defScope s_beside)
noncomputable abbrev s_above : Stmt := topS 13
noncomputable abbrev N_above : List Str := ["one", "other"]
theorem sc_above : FnScope N_above ["one", "other"] (defScope s_above) := ⟨rfl, rfl, rfl, by decide +kernel, rfl, by decide +kernel, by decide +kernel⟩
noncomputable abbrev s_quarter : Stmt := topS 16
noncomputable abbrev N_quarter : List Str := ["picture", "rows", "column", "row"]
theorem sc_quarter : FnScope N_quarter ["picture"] (defScope s_quarter) := ⟨rfl, rfl, rfl, by decide +kernel, rfl, by decide +kernel, by decide +kernel⟩
noncomputable abbrev bk_quarter := @L2.blkOk_by N_quarter (defScope s_quarter)
noncomputable abbrev s_mirrored : Stmt := topS 17
noncomputable abbrev N_mirrored : List Str := ["picture", "row"]
theorem sc_mirrored : FnScope N_mirrored ["picture"] (defScope s_mirrored) := ⟨rfl, rfl, rfl, by decide +kernel, rfl, by decide +kernel, by decide +kernel⟩
noncomputable abbrev bk_mirrored := @L2.blkOk_by N_mirrored (defScope s_mirrored)
noncomputable abbrev s_turned : Stmt := topS 18
noncomputable abbrev N_turned : List Str := ["picture", "t", "seen", "turn"]
theorem sc_turned : FnScope N_turned ["picture", "t"] (defScope s_turned) := ⟨rfl, rfl, rfl, by decide +kernel, rfl, by decide +kernel, by decide +kernel⟩
noncomputable abbrev s_is_name : Stmt := topS 26
noncomputable abbrev N_is_name : List Str := ["text", "sign"]
theorem sc_is_name : FnScope N_is_name ["text"] (defScope s_is_name) := ⟨rfl, rfl, rfl, by decide +kernel, rfl, by decide +kernel, by decide +kernel⟩
noncomputable abbrev bk_is_name := @L2.blkOk_by N_is_name (defScope s_is_name)
noncomputable abbrev s_asked_name : Stmt := topS 27
noncomputable abbrev N_asked_name : List Str := ["text"]
theorem sc_asked_name : FnScope N_asked_name ["text"] (defScope s_asked_name) := ⟨rfl, rfl, rfl, by decide +kernel, rfl, by decide +kernel, by decide +kernel⟩
noncomputable abbrev s_name_fault : Stmt := topS 35
noncomputable abbrev N_name_fault : List Str := ["grammar", "tree", "place", "name", "rule", "parts", "k", "part", "fault"]
theorem sc_name_fault : FnScope N_name_fault ["grammar", "tree", "place", "name"] (defScope s_name_fault) := ⟨rfl, rfl, rfl, by decide +kernel, rfl, by decide +kernel, by decide +kernel⟩
noncomputable abbrev s_made_by : Stmt := topS 36
noncomputable abbrev N_made_by : List Str := ["grammar", "tree", "place", "pictures", "k", "part", "picture", "fault", "made"]
theorem sc_made_by : FnScope N_made_by ["grammar", "tree", "place"] (defScope s_made_by) := ⟨rfl, rfl, rfl, by decide +kernel, rfl, by decide +kernel, by decide +kernel⟩
noncomputable abbrev s_looked_at : Stmt := topS 37
noncomputable abbrev N_looked_at : List Str := ["grammar", "tree", "fault"]
theorem sc_looked_at : FnScope N_looked_at ["grammar", "tree"] (defScope s_looked_at) := ⟨rfl, rfl, rfl, by decide +kernel, rfl, by decide +kernel, by decide +kernel⟩
noncomputable abbrev s_tree_fault : Stmt := topS 38
noncomputable abbrev N_tree_fault : List Str := ["grammar", "tree"]
theorem sc_tree_fault : FnScope N_tree_fault ["grammar", "tree"] (defScope s_tree_fault) := ⟨rfl, rfl, rfl, by decide +kernel, rfl, by decide +kernel, by decide +kernel⟩
noncomputable abbrev s_laid : Stmt := topS 39
noncomputable abbrev N_laid : List Str := ["grammar", "tree", "picture", "fault"]
theorem sc_laid : FnScope N_laid ["grammar", "tree"] (defScope s_laid) := ⟨rfl, rfl, rfl, by decide +kernel, rfl, by decide +kernel, by decide +kernel⟩
noncomputable abbrev s_numbers_in : Stmt := topS 40
noncomputable abbrev N_numbers_in : List Str := ["tree", "numbers", "part"]
theorem sc_numbers_in : FnScope N_numbers_in ["tree"] (defScope s_numbers_in) := ⟨rfl, rfl, rfl, by decide +kernel, rfl, by decide +kernel, by decide +kernel⟩
noncomputable abbrev s_cost_of : Stmt := topS 41
noncomputable abbrev N_cost_of : List Str := ["grammar", "tree", "k"]
theorem sc_cost_of : FnScope N_cost_of ["grammar", "tree"] (defScope s_cost_of) := ⟨rfl, rfl, rfl, by decide +kernel, rfl, by decide +kernel, by decide +kernel⟩
noncomputable abbrev bk_cost_of := @L2.blkOk_by N_cost_of (defScope s_cost_of)
noncomputable abbrev s_shares : Stmt := topS 43
noncomputable abbrev N_shares : List Str := ["rule", "rows", "columns", "left", "told", "at", "cost"]
theorem sc_shares : FnScope N_shares ["rule", "rows", "columns", "left"] (defScope s_shares) := ⟨rfl, rfl, rfl, by decide +kernel, rfl, by decide +kernel, by decide +kernel⟩
noncomputable abbrev s_before_turning : Stmt := topS 44
noncomputable abbrev N_before_turning : List Str := ["rule", "rows", "columns"]
theorem sc_before_turning : FnScope N_before_turning ["rule", "rows", "columns"] (defScope s_before_turning) := ⟨rfl, rfl, rfl, by decide +kernel, rfl, by decide +kernel, by decide +kernel⟩
noncomputable abbrev s_count_trees : Stmt := topS 46
noncomputable abbrev N_count_trees : List Str := ["grammar", "name", "rows", "columns", "cost"]
theorem sc_count_trees : FnScope N_count_trees ["grammar", "name", "rows", "columns", "cost"] (defScope s_count_trees) := ⟨rfl, rfl, rfl, by decide +kernel, rfl, by decide +kernel, by decide +kernel⟩
noncomputable abbrev s_tree_at : Stmt := topS 47
noncomputable abbrev N_tree_at : List Str := ["grammar", "name", "rows", "columns", "cost", "k"]
theorem sc_tree_at : FnScope N_tree_at ["grammar", "name", "rows", "columns", "cost", "k"] (defScope s_tree_at) := ⟨rfl, rfl, rfl, by decide +kernel, rfl, by decide +kernel, by decide +kernel⟩
noncomputable abbrev s_number_of : Stmt := topS 48
noncomputable abbrev N_number_of : List Str := ["grammar", "tree", "fault"]
theorem sc_number_of : FnScope N_number_of ["grammar", "tree"] (defScope s_number_of) := ⟨rfl, rfl, rfl, by decide +kernel, rfl, by decide +kernel, by decide +kernel⟩
noncomputable abbrev s_trees_of : Stmt := topS 53
noncomputable abbrev N_trees_of : List Str := ["grammar", "name", "rows", "columns", "cost", "counter"]
theorem sc_trees_of : FnScope N_trees_of ["grammar", "name", "rows", "columns", "cost"] (defScope s_trees_of) := ⟨rfl, rfl, rfl, by decide +kernel, rfl, by decide +kernel, by decide +kernel⟩
noncomputable abbrev s_are_signs : Stmt := topS 58
noncomputable abbrev N_are_signs : List Str := ["text", "sign"]
theorem sc_are_signs : FnScope N_are_signs ["text"] (defScope s_are_signs) := ⟨rfl, rfl, rfl, by decide +kernel, rfl, by decide +kernel, by decide +kernel⟩
noncomputable abbrev bk_are_signs := @L2.blkOk_by N_are_signs (defScope s_are_signs)
noncomputable abbrev s_names_met : Stmt := topS 59
noncomputable abbrev N_names_met : List Str := ["start", "rules", "met", "rule", "name"]
theorem sc_names_met : FnScope N_names_met ["start", "rules"] (defScope s_names_met) := ⟨rfl, rfl, rfl, by decide +kernel, rfl, by decide +kernel, by decide +kernel⟩
noncomputable abbrev s_asked_rules : Stmt := topS 60
noncomputable abbrev N_asked_rules : List Str := ["signs", "rules", "k", "rule"]
theorem sc_asked_rules : FnScope N_asked_rules ["signs", "rules"] (defScope s_asked_rules) := ⟨rfl, rfl, rfl, by decide +kernel, rfl, by decide +kernel, by decide +kernel⟩
noncomputable abbrev s_law_cell : Stmt := topS 63
noncomputable abbrev N_law_cell : List Str := ["_law_script", "_law_k", "_law_cell_here", "_law_mixed"]
theorem sc_law_cell : FnScope N_law_cell ["_law_script", "_law_k"] (defScope s_law_cell) := ⟨rfl, rfl, rfl, by decide +kernel, rfl, by decide +kernel, by decide +kernel⟩
noncomputable abbrev s_law_cells : Stmt := topS 64
noncomputable abbrev N_law_cells : List Str := ["_law_script", "_law_begin", "_law_most", "_law_many", "_law_k"]
theorem sc_law_cells : FnScope N_law_cells ["_law_script", "_law_begin", "_law_most"] (defScope s_law_cells) := ⟨rfl, rfl, rfl, by decide +kernel, rfl, by decide +kernel, by decide +kernel⟩
noncomputable abbrev bk_law_cells := @L2.blkOk_by N_law_cells (defScope s_law_cells)
noncomputable abbrev s_law_signs : Stmt := topS 66
noncomputable abbrev N_law_signs : List Str := ["_law_cell_here", "_law_most", "_law_letters", "_law_step_here", "_law_k"]
theorem sc_law_signs : FnScope N_law_signs ["_law_cell_here", "_law_most"] (defScope s_law_signs) := ⟨rfl, rfl, rfl, by decide +kernel, rfl, by decide +kernel, by decide +kernel⟩
noncomputable abbrev bk_law_signs := @L2.blkOk_by N_law_signs (defScope s_law_signs)
noncomputable abbrev s_law_names : Stmt := topS 67
noncomputable abbrev N_law_names : List Str := ["_law_cell_here", "_law_letters", "_law_size", "_law_at", "_law_step_here", "_law_base", "_law_names_here", "_law_k", "_law_letter"]
theorem sc_law_names : FnScope N_law_names ["_law_cell_here"] (defScope s_law_names) := ⟨rfl, rfl, rfl, by decide +kernel, rfl, by decide +kernel, by decide +kernel⟩
noncomputable abbrev bk_law_names := @L2.blkOk_by N_law_names (defScope s_law_names)
noncomputable abbrev s_law_rule : Stmt := topS 68
noncomputable abbrev N_law_rule : List Str := ["_law_rule_here"]
theorem sc_law_rule : FnScope N_law_rule ["_law_rule_here"] (defScope s_law_rule) := ⟨rfl, rfl, rfl, by decide +kernel, rfl, by decide +kernel, by decide +kernel⟩
noncomputable abbrev s_law_grammar : Stmt := topS 69
noncomputable abbrev N_law_grammar : List Str := ["_law_signs_here", "_law_start", "_law_rules", "_law_rule_here"]
theorem sc_law_grammar : FnScope N_law_grammar ["_law_signs_here", "_law_start", "_law_rules"] (defScope s_law_grammar) := ⟨rfl, rfl, rfl, by decide +kernel, rfl, by decide +kernel, by decide +kernel⟩
noncomputable abbrev bk_law_grammar := @L2.blkOk_by N_law_grammar (defScope s_law_grammar)
noncomputable abbrev s_law_turned : Stmt := topS 70
noncomputable abbrev N_law_turned : List Str := ["_law_picture", "_law_t", "_law_turn", "_law_rows", "_law_column", "_law_row"]
theorem sc_law_turned : FnScope N_law_turned ["_law_picture", "_law_t"] (defScope s_law_turned) := ⟨rfl, rfl, rfl, by decide +kernel, rfl, by decide +kernel, by decide +kernel⟩
noncomputable abbrev bk_law_turned := @L2.blkOk_by N_law_turned (defScope s_law_turned)
noncomputable abbrev s_law_joined : Stmt := topS 71
noncomputable abbrev N_law_joined : List Str := ["_law_one", "_law_other", "_law_side", "_law_most", "_law_left", "_law_right"]
theorem sc_law_joined : FnScope N_law_joined ["_law_one", "_law_other", "_law_side", "_law_most"] (defScope s_law_joined) := ⟨rfl, rfl, rfl, by decide +kernel, rfl, by decide +kernel, by decide +kernel⟩
noncomputable abbrev bk_law_joined := @L2.blkOk_by N_law_joined (defScope s_law_joined)
noncomputable abbrev s_law_noted : Stmt := topS 72
noncomputable abbrev N_law_noted : List Str := ["_law_rules", "_law_wanted", "_law_again", "_law_k", "_law_rule_here"]
theorem sc_law_noted : FnScope N_law_noted ["_law_rules", "_law_wanted", "_law_again"] (defScope s_law_noted) := ⟨rfl, rfl, rfl, by decide +kernel, rfl, by decide +kernel, by decide +kernel⟩
noncomputable abbrev s_law_put : Stmt := topS 73
noncomputable abbrev N_law_put : List Str := ["_law_rules", "_law_stock", "_law_wanted", "_law_again", "_law_parts", "_law_made", "_law_k", "_law_cost", "_law_part"]
theorem sc_law_put : FnScope N_law_put ["_law_rules", "_law_stock", "_law_wanted", "_law_again", "_law_parts", "_law_made"] (defScope s_law_put) := ⟨rfl, rfl, rfl, by decide +kernel, rfl, by decide +kernel, by decide +kernel⟩
noncomputable abbrev bk_law_put := @L2.blkOk_by N_law_put (defScope s_law_put)
noncomputable abbrev s_law_step : Stmt := topS 74
noncomputable abbrev N_law_step : List Str := ["_law_rules", "_law_stock", "_law_cell_here", "_law_drawn", "_law_signs_here", "_law_names_here", "_law_dear", "_law_side", "_law_limit", "_law_kind", "_law_again", "_law_name", "_law_cost", "_law_rest", "_law_sign", "_law_one", "_law_made", "_law_other", "_law_way", "_law_picture"]
theorem sc_law_step : FnScope N_law_step ["_law_rules", "_law_stock", "_law_cell_here", "_law_drawn"] (defScope s_law_step) := ⟨rfl, rfl, rfl, by decide +kernel, rfl, by decide +kernel, by decide +kernel⟩
noncomputable abbrev s_law_grown : Stmt := topS 75
noncomputable abbrev N_law_grown : List Str := ["_law_cells_here", "_law_drawn", "_law_rules", "_law_stock", "_law_cell_here"]
theorem sc_law_grown : FnScope N_law_grown ["_law_cells_here", "_law_drawn"] (defScope s_law_grown) := ⟨rfl, rfl, rfl, by decide +kernel, rfl, by decide +kernel, by decide +kernel⟩
noncomputable abbrev s_law_error : Stmt := topS 76
noncomputable abbrev N_law_error : List Str := ["_law_grammar_here", "_law_shape", "_law_k", "_law_error_here", "e"]
theorem sc_law_error : FnScope N_law_error ["_law_grammar_here", "_law_shape", "_law_k"] (defScope s_law_error) := ⟨rfl, rfl, rfl, by decide +kernel, rfl, by decide +kernel, by decide +kernel⟩
noncomputable abbrev s_law_no_number : Stmt := topS 77
noncomputable abbrev N_law_no_number : List Str := ["_law_error_here"]
theorem sc_law_no_number : FnScope N_law_no_number ["_law_error_here"] (defScope s_law_no_number) := ⟨rfl, rfl, rfl, by decide +kernel, rfl, by decide +kernel, by decide +kernel⟩
noncomputable abbrev s_law_no_name : Stmt := topS 78
noncomputable abbrev N_law_no_name : List Str := ["_law_error_here"]
theorem sc_law_no_name : FnScope N_law_no_name ["_law_error_here"] (defScope s_law_no_name) := ⟨rfl, rfl, rfl, by decide +kernel, rfl, by decide +kernel, by decide +kernel⟩
noncomputable abbrev s_law_spoilt : Stmt := topS 79
noncomputable abbrev N_law_spoilt : List Str := ["_law_tree", "_law_cell_here", "_law_many", "_law_far"]
theorem sc_law_spoilt : FnScope N_law_spoilt ["_law_tree", "_law_cell_here", "_law_many"] (defScope s_law_spoilt) := ⟨rfl, rfl, rfl, by decide +kernel, rfl, by decide +kernel, by decide +kernel⟩
noncomputable abbrev s_law_spoilt_within : Stmt := topS 80
noncomputable abbrev N_law_spoilt_within : List Str := ["_law_tree", "_law_cell_here", "_law_many", "_law_part", "_law_bad", "_law_why_here"]
theorem sc_law_spoilt_within : FnScope N_law_spoilt_within ["_law_tree", "_law_cell_here", "_law_many"] (defScope s_law_spoilt_within) := ⟨rfl, rfl, rfl, by decide +kernel, rfl, by decide +kernel, by decide +kernel⟩
noncomputable abbrev s_law_why : Stmt := topS 81
noncomputable abbrev N_law_why : List Str := ["_law_grammar_here", "_law_tree", "_law_error_here", "e"]
theorem sc_law_why : FnScope N_law_why ["_law_grammar_here", "_law_tree"] (defScope s_law_why) := ⟨rfl, rfl, rfl, by decide +kernel, rfl, by decide +kernel, by decide +kernel⟩
noncomputable abbrev s_law : Stmt := topS 82
noncomputable abbrev N_law : List Str := ["_law_script", "_law_names_here", "_law_drawn", "_law_rules", "_law_stock", "_law_grammar_here", "_law_far", "_law_none", "_law_one", "_law_shape", "_law_many", "_law_spoilt_here"]
theorem sc_law : FnScope N_law ["_law_script"] (defScope s_law) := ⟨rfl, rfl, rfl, by decide +kernel, rfl, by decide +kernel, by decide +kernel⟩
noncomputable abbrev bk_law := @L2.blkOk_by N_law (defScope s_law)
noncomputable abbrev s_Rule_init : Stmt := clsS 28 0
noncomputable abbrev N_Rule_init : List Str := ["self", "name", "cost"]
theorem sc_Rule_init : FnScope N_Rule_init ["self", "name", "cost"] (defScope s_Rule_init) := ⟨rfl, rfl, rfl, by decide +kernel, rfl, by decide +kernel, by decide +kernel⟩
noncomputable abbrev s_Rule_parts : Stmt := clsS 28 1
noncomputable abbrev N_Rule_parts : List Str := ["self"]
theorem sc_Rule_parts : FnScope N_Rule_parts ["self"] (defScope s_Rule_parts) := ⟨rfl, rfl, rfl, by decide +kernel, rfl, by decide +kernel, by decide +kernel⟩
noncomputable abbrev s_CellRule_init : Stmt := clsS 29 0
noncomputable abbrev N_CellRule_init : List Str := ["self", "name", "cost", "sign"]
theorem sc_CellRule_init : FnScope N_CellRule_init ["self", "name", "cost", "sign"] (defScope s_CellRule_init) := ⟨rfl, rfl, rfl, by decide +kernel, rfl, by decide +kernel, by decide +kernel⟩
noncomputable abbrev s_CellRule_made : Stmt := clsS 29 1
noncomputable abbrev N_CellRule_made : List Str := ["self", "pictures"]
theorem sc_CellRule_made : FnScope N_CellRule_made ["self", "pictures"] (defScope s_CellRule_made) := ⟨rfl, rfl, rfl, by decide +kernel, rfl, by decide +kernel, by decide +kernel⟩
noncomputable abbrev s_BesideRule_init : Stmt := clsS 31 0
noncomputable abbrev N_BesideRule_init : List Str := ["self", "name", "cost", "one", "other"]
theorem sc_BesideRule_init : FnScope N_BesideRule_init ["self", "name", "cost", "one", "other"] (defScope s_BesideRule_init) := ⟨rfl, rfl, rfl, by decide +kernel, rfl, by decide +kernel, by decide +kernel⟩
noncomputable abbrev s_BesideRule_parts : Stmt := clsS 31 1
noncomputable abbrev N_BesideRule_parts : List Str := ["self"]
theorem sc_BesideRule_parts : FnScope N_BesideRule_parts ["self"] (defScope s_BesideRule_parts) := ⟨rfl, rfl, rfl, by decide +kernel, rfl, by decide +kernel, by decide +kernel⟩
noncomputable abbrev s_BesideRule_made : Stmt := clsS 31 2
noncomputable abbrev N_BesideRule_made : List Str := ["self", "pictures"]
theorem sc_BesideRule_made : FnScope N_BesideRule_made ["self", "pictures"] (defScope s_BesideRule_made) := ⟨rfl, rfl, rfl, by decide +kernel, rfl, by decide +kernel, by decide +kernel⟩
noncomputable abbrev s_AboveRule_init : Stmt := clsS 32 0
noncomputable abbrev N_AboveRule_init : List Str := ["self", "name", "cost", "one", "other"]
theorem sc_AboveRule_init : FnScope N_AboveRule_init ["self", "name", "cost", "one", "other"] (defScope s_AboveRule_init) := ⟨rfl, rfl, rfl, by decide +kernel, rfl, by decide +kernel, by decide +kernel⟩
noncomputable abbrev s_AboveRule_parts : Stmt := clsS 32 1
noncomputable abbrev N_AboveRule_parts : List Str := ["self"]
theorem sc_AboveRule_parts : FnScope N_AboveRule_parts ["self"] (defScope s_AboveRule_parts) := ⟨rfl, rfl, rfl, by decide +kernel, rfl, by decide +kernel, by decide +kernel⟩
noncomputable abbrev s_AboveRule_made : Stmt := clsS 32 2
noncomputable abbrev N_AboveRule_made : List Str := ["self", "pictures"]
theorem sc_AboveRule_made : FnScope N_AboveRule_made ["self", "pictures"] (defScope s_AboveRule_made) := ⟨rfl, rfl, rfl, by decide +kernel, rfl, by decide +kernel, by decide +kernel⟩
noncomputable abbrev s_TurnRule_init : Stmt := clsS 33 0
noncomputable abbrev N_TurnRule_init : List Str := ["self", "name", "cost", "part", "turning"]
theorem sc_TurnRule_init : FnScope N_TurnRule_init ["self", "name", "cost", "part", "turning"] (defScope s_TurnRule_init) := ⟨rfl, rfl, rfl, by decide +kernel, rfl, by decide +kernel, by decide +kernel⟩
noncomputable abbrev s_TurnRule_parts : Stmt := clsS 33 1
noncomputable abbrev N_TurnRule_parts : List Str := ["self"]
theorem sc_TurnRule_parts : FnScope N_TurnRule_parts ["self"] (defScope s_TurnRule_parts) := ⟨rfl, rfl, rfl, by decide +kernel, rfl, by decide +kernel, by decide +kernel⟩
noncomputable abbrev s_TurnRule_made : Stmt := clsS 33 2
noncomputable abbrev N_TurnRule_made : List Str := ["self", "pictures"]
theorem sc_TurnRule_made : FnScope N_TurnRule_made ["self", "pictures"] (defScope s_TurnRule_made) := ⟨rfl, rfl, rfl, by decide +kernel, rfl, by decide +kernel, by decide +kernel⟩
noncomputable abbrev s_Counter_init : Stmt := clsS 45 0
noncomputable abbrev N_Counter_init : List Str := ["self", "grammar"]
theorem sc_Counter_init : FnScope N_Counter_init ["self", "grammar"] (defScope s_Counter_init) := ⟨rfl, rfl, rfl, by decide +kernel, rfl, by decide +kernel, by decide +kernel⟩
noncomputable abbrev s_Counter_of_name : Stmt := clsS 45 1
noncomputable abbrev N_Counter_of_name : List Str := ["self", "name", "rows", "columns", "cost", "key", "total", "k"]
theorem sc_Counter_of_name : FnScope N_Counter_of_name ["self", "name", "rows", "columns", "cost"] (defScope s_Counter_of_name) := ⟨rfl, rfl, rfl, by decide +kernel, rfl, by decide +kernel, by decide +kernel⟩
noncomputable abbrev s_Counter_of_shares : Stmt := clsS 45 2
noncomputable abbrev N_Counter_of_shares : List Str := ["self", "rule", "one", "other", "first"]
theorem sc_Counter_of_shares : FnScope N_Counter_of_shares ["self", "rule", "one", "other"] (defScope s_Counter_of_shares) := ⟨rfl, rfl, rfl, by decide +kernel, rfl, by decide +kernel, by decide +kernel⟩
noncomputable abbrev s_Counter_of_rule : Stmt := clsS 45 3
noncomputable abbrev N_Counter_of_rule : List Str := ["self", "rule", "rows", "columns", "cost", "left", "size", "total", "one", "other", "many"]
theorem sc_Counter_of_rule : FnScope N_Counter_of_rule ["self", "rule", "rows", "columns", "cost"] (defScope s_Counter_of_rule) := ⟨rfl, rfl, rfl, by decide +kernel, rfl, by decide +kernel, by decide +kernel⟩
noncomputable abbrev s_Counter_tree : Stmt := clsS 45 4
noncomputable abbrev N_Counter_tree : List Str := ["self", "name", "rows", "columns", "cost", "k", "number", "rule", "many"]
theorem sc_Counter_tree : FnScope N_Counter_tree ["self", "name", "rows", "columns", "cost", "k"] (defScope s_Counter_tree) := ⟨rfl, rfl, rfl, by decide +kernel, rfl, by decide +kernel, by decide +kernel⟩
noncomputable abbrev s_Counter_tree_by : Stmt := clsS 45 5
noncomputable abbrev N_Counter_tree_by : List Str := ["self", "number", "rule", "shape", "k", "left", "size", "one", "other", "many", "first"]
theorem sc_Counter_tree_by : FnScope N_Counter_tree_by ["self", "number", "rule", "shape", "k"] (defScope s_Counter_tree_by) := ⟨rfl, rfl, rfl, by decide +kernel, rfl, by decide +kernel, by decide +kernel⟩
noncomputable abbrev s_Counter_shape_of : Stmt := clsS 45 6
noncomputable abbrev N_Counter_shape_of : List Str := ["self", "tree", "size"]
theorem sc_Counter_shape_of : FnScope N_Counter_shape_of ["self", "tree"] (defScope s_Counter_shape_of) := ⟨rfl, rfl, rfl, by decide +kernel, rfl, by decide +kernel, by decide +kernel⟩
noncomputable abbrev s_Counter_number : Stmt := clsS 45 7
noncomputable abbrev N_Counter_number : List Str := ["self", "tree", "shape", "rule", "before", "k"]
theorem sc_Counter_number : FnScope N_Counter_number ["self", "tree"] (defScope s_Counter_number) := ⟨rfl, rfl, rfl, by decide +kernel, rfl, by decide +kernel, by decide +kernel⟩
noncomputable abbrev s_Counter_number_by : Stmt := clsS 45 8
noncomputable abbrev N_Counter_number_by : List Str := ["self", "rule", "shape", "tree", "first", "before", "one", "other", "many"]
theorem sc_Counter_number_by : FnScope N_Counter_number_by ["self", "rule", "shape", "tree"] (defScope s_Counter_number_by) := ⟨rfl, rfl, rfl, by decide +kernel, rfl, by decide +kernel, by decide +kernel⟩
noncomputable abbrev s_Grammar_init : Stmt := clsS 61 0
noncomputable abbrev N_Grammar_init : List Str := ["self", "signs", "start", "rules", "met"]
theorem sc_Grammar_init : FnScope N_Grammar_init ["self", "signs", "start", "rules"] (defScope s_Grammar_init) := ⟨rfl, rfl, rfl, by decide +kernel, rfl, by decide +kernel, by decide +kernel⟩
noncomputable abbrev s_Grammar_rule : Stmt := clsS 61 2
noncomputable abbrev N_Grammar_rule : List Str := ["self", "k"]
theorem sc_Grammar_rule : FnScope N_Grammar_rule ["self", "k"] (defScope s_Grammar_rule) := ⟨rfl, rfl, rfl, by decide +kernel, rfl, by decide +kernel, by decide +kernel⟩
noncomputable abbrev s_Grammar_many : Stmt := clsS 61 3
noncomputable abbrev N_Grammar_many : List Str := ["self"]
theorem sc_Grammar_many : FnScope N_Grammar_many ["self"] (defScope s_Grammar_many) := ⟨rfl, rfl, rfl, by decide +kernel, rfl, by decide +kernel, by decide +kernel⟩
noncomputable abbrev s_Grammar_numbers_of : Stmt := clsS 61 5
noncomputable abbrev N_Grammar_numbers_of : List Str := ["self", "name", "k", "rule"]
theorem sc_Grammar_numbers_of : FnScope N_Grammar_numbers_of ["self", "name"] (defScope s_Grammar_numbers_of) := ⟨rfl, rfl, rfl, by decide +kernel, rfl, by decide +kernel, by decide +kernel⟩
noncomputable abbrev bk_Grammar_numbers_of := @L2.blkOk_by N_Grammar_numbers_of (defScope s_Grammar_numbers_of)
noncomputable abbrev s_NoTree_init : Stmt := clsS 5 0
noncomputable abbrev N_NoTree_init : List Str := ["self", "why"]
theorem sc_NoTree_init : FnScope N_NoTree_init ["self", "why"] (defScope s_NoTree_init) := ⟨rfl, rfl, rfl, by decide +kernel, rfl, by decide +kernel, by decide +kernel⟩
noncomputable abbrev s_NoGrammar_init : Stmt := clsS 4 0
noncomputable abbrev N_NoGrammar_init : List Str := ["self", "why"]
theorem sc_NoGrammar_init : FnScope N_NoGrammar_init ["self", "why"] (defScope s_NoGrammar_init) := ⟨rfl, rfl, rfl, by decide +kernel, rfl, by decide +kernel, by decide +kernel⟩
structure Txt (K : PySem.W.Frag) (mg : Str → Option Value) : Prop where
  b_ValueError : mg "ValueError" = none
  b_all : mg "all" = none
  b_enumerate : mg "enumerate" = none
  b_int : mg "int" = none
  b_isinstance : mg "isinstance" = none
  b_len : mg "len" = none
  b_list : mg "list" = none
  b_range : mg "range" = none
  b_reversed : mg "reversed" = none
  b_set : mg "set" = none
  b_sum : mg "sum" = none
  b_tuple : mg "tuple" = none
  b_zip : mg "zip" = none
  c_MOST : ∃ t, mg "MOST" = some (.int 6 t)
  c_MIRROR : ∃ t, mg "MIRROR" = some (.int 4 t)
  c_CAPITALS : ∃ t, mg "CAPITALS" = some (.str (Str.ofString "ABCDEFGHIJKLMNOPQRSTUVWXYZ") t)
  c_SMALL : ∃ t, mg "SMALL" = some (.str (Str.ofString "abcdefghijklmnopqrstuvwxyz") t)
  c_MOST_LETTERS : ∃ t, mg "MOST_LETTERS" = some (.int 4 t)
  c_MOST_COST : ∃ t, mg "MOST_COST" = some (.int 9 t)
  c_MOST_SIGNS : ∃ t, mg "MOST_SIGNS" = some (.int 4 t)
  c_MOST_RULES : ∃ t, mg "MOST_RULES" = some (.int 24 t)
  c_MOST_NAMES : ∃ t, mg "MOST_NAMES" = some (.int 8 t)
  x_QuiltError : XC K mg "QuiltError"
  x_NoFit : XC K mg "NoFit"
  x_NoRule : XC K mg "NoRule"
  x_NoGrammar : XC K mg "NoGrammar"
  x_NoTree : XC K mg "NoTree"
  x_NoName : XC K mg "NoName"
  x_TooMany : XC K mg "TooMany"
  x_NoNumber : XC K mg "NoNumber"
  p_NoFit : XPlain K "NoFit"
  p_NoRule : XPlain K "NoRule"
  i_NoTree : Dx K "NoTree" "why" "NoTree.__init__" s_NoTree_init ["self", "why"]
  p_NoNumber : XPlain K "NoNumber"
  i_NoGrammar : Dx K "NoGrammar" "why" "NoGrammar.__init__" s_NoGrammar_init ["self", "why"]
  p_NoName : XPlain K "NoName"
  q_QuiltError : ∃ D, XBase K mg "QuiltError" D
  s_NoFit_NoFit : XSub K "NoFit" "NoFit" true
  s_NoTree_QuiltError : XSub K "NoTree" "QuiltError" true
  s_NoTree_NoNumber : XSub K "NoTree" "NoNumber" false
  s_NoTree_NoTree : XSub K "NoTree" "NoTree" true
  s_NoNumber_QuiltError : XSub K "NoNumber" "QuiltError" true
  s_NoNumber_NoName : XSub K "NoNumber" "NoName" false
  s_NoNumber_NoNumber : XSub K "NoNumber" "NoNumber" true
  s_NoNumber_TooMany : XSub K "NoNumber" "TooMany" false
  t_NoNumber_ValueError : XSubT K "NoNumber" "ValueError" true
  s_NoName_QuiltError : XSub K "NoName" "QuiltError" true
  s_NoName_NoName : XSub K "NoName" "NoName" true
  s_NoName_NoNumber : XSub K "NoName" "NoNumber" false
  s_NoName_TooMany : XSub K "NoName" "TooMany" false
  o_Rule : OC K mg "Rule"
  o_CellRule : OC K mg "CellRule"
  o_BesideRule : OC K mg "BesideRule"
  o_AboveRule : OC K mg "AboveRule"
  o_TurnRule : OC K mg "TurnRule"
  o_Counter : OC K mg "Counter"
  o_Grammar : OC K mg "Grammar"
  m_Rule_init : Dm K "Rule" "__init__" "Rule.__init__" s_Rule_init ["self", "name", "cost"]
  a_CellRule_sign : NoA K "CellRule" "sign"
  a_CellRule_name : NoA K "CellRule" "name"
  a_CellRule_cost : NoA K "CellRule" "cost"
  m_CellRule_init : Dm K "CellRule" "__init__" "CellRule.__init__" s_CellRule_init ["self", "name", "cost", "sign"]
  m_CellRule_made : Dm K "CellRule" "made" "CellRule.made" s_CellRule_made ["self", "pictures"]
  m_CellRule_parts : Dm K "CellRule" "parts" "Rule.parts" s_Rule_parts ["self"]
  a_BesideRule_one : NoA K "BesideRule" "one"
  a_BesideRule_other : NoA K "BesideRule" "other"
  a_BesideRule_name : NoA K "BesideRule" "name"
  a_BesideRule_cost : NoA K "BesideRule" "cost"
  m_BesideRule_init : Dm K "BesideRule" "__init__" "BesideRule.__init__" s_BesideRule_init ["self", "name", "cost", "one", "other"]
  m_BesideRule_parts : Dm K "BesideRule" "parts" "BesideRule.parts" s_BesideRule_parts ["self"]
  m_BesideRule_made : Dm K "BesideRule" "made" "BesideRule.made" s_BesideRule_made ["self", "pictures"]
  a_AboveRule_one : NoA K "AboveRule" "one"
  a_AboveRule_other : NoA K "AboveRule" "other"
  a_AboveRule_name : NoA K "AboveRule" "name"
  a_AboveRule_cost : NoA K "AboveRule" "cost"
  m_AboveRule_init : Dm K "AboveRule" "__init__" "AboveRule.__init__" s_AboveRule_init ["self", "name", "cost", "one", "other"]
  m_AboveRule_parts : Dm K "AboveRule" "parts" "AboveRule.parts" s_AboveRule_parts ["self"]
  m_AboveRule_made : Dm K "AboveRule" "made" "AboveRule.made" s_AboveRule_made ["self", "pictures"]
  a_TurnRule_part : NoA K "TurnRule" "part"
  a_TurnRule_turning : NoA K "TurnRule" "turning"
  a_TurnRule_name : NoA K "TurnRule" "name"
  a_TurnRule_cost : NoA K "TurnRule" "cost"
  m_TurnRule_init : Dm K "TurnRule" "__init__" "TurnRule.__init__" s_TurnRule_init ["self", "name", "cost", "part", "turning"]
  m_TurnRule_parts : Dm K "TurnRule" "parts" "TurnRule.parts" s_TurnRule_parts ["self"]
  m_TurnRule_made : Dm K "TurnRule" "made" "TurnRule.made" s_TurnRule_made ["self", "pictures"]
  a_Counter_grammar : NoA K "Counter" "grammar"
  a_Counter_kept : NoA K "Counter" "kept"
  m_Counter_init : Dm K "Counter" "__init__" "Counter.__init__" s_Counter_init ["self", "grammar"]
  m_Counter_of_name : Dm K "Counter" "of_name" "Counter.of_name" s_Counter_of_name ["self", "name", "rows", "columns", "cost"]
  m_Counter_of_shares : Dm K "Counter" "of_shares" "Counter.of_shares" s_Counter_of_shares ["self", "rule", "one", "other"]
  m_Counter_of_rule : Dm K "Counter" "of_rule" "Counter.of_rule" s_Counter_of_rule ["self", "rule", "rows", "columns", "cost"]
  m_Counter_tree : Dm K "Counter" "tree" "Counter.tree" s_Counter_tree ["self", "name", "rows", "columns", "cost", "k"]
  m_Counter_tree_by : Dm K "Counter" "tree_by" "Counter.tree_by" s_Counter_tree_by ["self", "number", "rule", "shape", "k"]
  m_Counter_shape_of : Dm K "Counter" "shape_of" "Counter.shape_of" s_Counter_shape_of ["self", "tree"]
  m_Counter_number : Dm K "Counter" "number" "Counter.number" s_Counter_number ["self", "tree"]
  m_Counter_number_by : Dm K "Counter" "number_by" "Counter.number_by" s_Counter_number_by ["self", "rule", "shape", "tree"]
  a_Grammar_signs : NoA K "Grammar" "signs"
  a_Grammar_start : NoA K "Grammar" "start"
  a_Grammar_kept_rules : NoA K "Grammar" "kept_rules"
  a_Grammar_kept_names : NoA K "Grammar" "kept_names"
  m_Grammar_init : Dm K "Grammar" "__init__" "Grammar.__init__" s_Grammar_init ["self", "signs", "start", "rules"]
  m_Grammar_rule : Dm K "Grammar" "rule" "Grammar.rule" s_Grammar_rule ["self", "k"]
  m_Grammar_many : Dm K "Grammar" "many" "Grammar.many" s_Grammar_many ["self"]
  m_Grammar_numbers_of : Dm K "Grammar" "numbers_of" "Grammar.numbers_of" s_Grammar_numbers_of ["self", "name"]
  z_Rule : CInit K "Rule"
  u_CellRule_CellRule : OSub K "CellRule" "CellRule" true
  u_BesideRule_BesideRule : OSub K "BesideRule" "BesideRule" true
  u_BesideRule_CellRule : OSub K "BesideRule" "CellRule" false
  u_BesideRule_TurnRule : OSub K "BesideRule" "TurnRule" false
  u_AboveRule_BesideRule : OSub K "AboveRule" "BesideRule" false
  u_AboveRule_CellRule : OSub K "AboveRule" "CellRule" false
  u_AboveRule_TurnRule : OSub K "AboveRule" "TurnRule" false
  u_TurnRule_CellRule : OSub K "TurnRule" "CellRule" false
  u_TurnRule_TurnRule : OSub K "TurnRule" "TurnRule" true
  f_size_of : Df K mg "size_of" s_size_of ["picture"]
  f_beside : Df K mg "beside" s_beside ["one", "other"]
  f_above : Df K mg "above" s_above ["one", "other"]
  f_quarter : Df K mg "quarter" s_quarter ["picture"]
  f_mirrored : Df K mg "mirrored" s_mirrored ["picture"]
  f_turned : Df K mg "turned" s_turned ["picture", "t"]
  f_is_name : Df K mg "is_name" s_is_name ["text"]
  f_asked_name : Df K mg "asked_name" s_asked_name ["text"]
  f_name_fault : Df K mg "name_fault" s_name_fault ["grammar", "tree", "place", "name"]
  f_made_by : Df K mg "made_by" s_made_by ["grammar", "tree", "place"]
  f_looked_at : Df K mg "looked_at" s_looked_at ["grammar", "tree"]
  f_tree_fault : Df K mg "tree_fault" s_tree_fault ["grammar", "tree"]
  f_laid : Df K mg "laid" s_laid ["grammar", "tree"]
  f_numbers_in : Df K mg "numbers_in" s_numbers_in ["tree"]
  f_cost_of : Df K mg "cost_of" s_cost_of ["grammar", "tree"]
  f_shares : Df K mg "shares" s_shares ["rule", "rows", "columns", "left"]
  f_before_turning : Df K mg "before_turning" s_before_turning ["rule", "rows", "columns"]
  f_count_trees : Df K mg "count_trees" s_count_trees ["grammar", "name", "rows", "columns", "cost"]
  f_tree_at : Df K mg "tree_at" s_tree_at ["grammar", "name", "rows", "columns", "cost", "k"]
  f_number_of : Df K mg "number_of" s_number_of ["grammar", "tree"]
  f_trees_of : Df K mg "trees_of" s_trees_of ["grammar", "name", "rows", "columns", "cost"]
  f_are_signs : Df K mg "are_signs" s_are_signs ["text"]
  f_names_met : Df K mg "names_met" s_names_met ["start", "rules"]
  f_asked_rules : Df K mg "asked_rules" s_asked_rules ["signs", "rules"]
  f_law_cell : Df K mg "_law_cell" s_law_cell ["_law_script", "_law_k"]
  f_law_cells : Df K mg "_law_cells" s_law_cells ["_law_script", "_law_begin", "_law_most"]
  f_law_signs : Df K mg "_law_signs" s_law_signs ["_law_cell_here", "_law_most"]
  f_law_names : Df K mg "_law_names" s_law_names ["_law_cell_here"]
  f_law_rule : Df K mg "_law_rule" s_law_rule ["_law_rule_here"]
  f_law_grammar : Df K mg "_law_grammar" s_law_grammar ["_law_signs_here", "_law_start", "_law_rules"]
  f_law_turned : Df K mg "_law_turned" s_law_turned ["_law_picture", "_law_t"]
  f_law_joined : Df K mg "_law_joined" s_law_joined ["_law_one", "_law_other", "_law_side", "_law_most"]
  f_law_noted : Df K mg "_law_noted" s_law_noted ["_law_rules", "_law_wanted", "_law_again"]
  f_law_put : Df K mg "_law_put" s_law_put ["_law_rules", "_law_stock", "_law_wanted", "_law_again", "_law_parts", "_law_made"]
  f_law_step : Df K mg "_law_step" s_law_step ["_law_rules", "_law_stock", "_law_cell_here", "_law_drawn"]
  f_law_grown : Df K mg "_law_grown" s_law_grown ["_law_cells_here", "_law_drawn"]
  f_law_error : Df K mg "_law_error" s_law_error ["_law_grammar_here", "_law_shape", "_law_k"]
  f_law_no_number : Df K mg "_law_no_number" s_law_no_number ["_law_error_here"]
  f_law_no_name : Df K mg "_law_no_name" s_law_no_name ["_law_error_here"]
  f_law_spoilt : Df K mg "_law_spoilt" s_law_spoilt ["_law_tree", "_law_cell_here", "_law_many"]
  f_law_spoilt_within : Df K mg "_law_spoilt_within" s_law_spoilt_within ["_law_tree", "_law_cell_here", "_law_many"]
  f_law_why : Df K mg "_law_why" s_law_why ["_law_grammar_here", "_law_tree"]
section
variable {P : Program} {w : World} {K : PySem.W.Frag} {mg : Str → Option Value} {base : Heap}
theorem init_NoTree (T : Txt K mg) : XInit P w K mg base 1 "NoTree" "why" := XInit.of T.i_NoTree sc_NoTree_init rfl fun C fI TC hno cdv A outer s H E a v Q ha hq => by
  obtain ⟨D, bD⟩ := T.q_QuiltError
  exact WP.cons (ps_expr (pe_qinit bD (pa_cons (pe_var (i := 0) rfl (.inl rfl)) (pa_cons pe_str pa_nil))) rfl) ⟨_, rfl, a, C, _, rfl, by decide, TC, ha, WP.cons (ps_ost (pe_var (i := 0) rfl (.inl rfl)) (pe_var (i := 1) rfl (.inl rfl)) rfl) ⟨v, rfl, _, rfl, a, C, rfl, TC, hno, .inl ⟨ha, fun dx h1 h2 => WP.of pss_nil (hq dx h1 h2)⟩⟩⟩
theorem init_NoGrammar (T : Txt K mg) : XInit P w K mg base 1 "NoGrammar" "why" := XInit.of T.i_NoGrammar sc_NoGrammar_init rfl fun C fI TC hno cdv A outer s H E a v Q ha hq => by
  obtain ⟨D, bD⟩ := T.q_QuiltError
  exact WP.cons (ps_expr (pe_qinit bD (pa_cons (pe_var (i := 0) rfl (.inl rfl)) (pa_cons pe_str pa_nil))) rfl) ⟨_, rfl, a, C, _, rfl, by decide, TC, ha, WP.cons (ps_ost (pe_var (i := 0) rfl (.inl rfl)) (pe_var (i := 1) rfl (.inl rfl)) rfl) ⟨v, rfl, _, rfl, a, C, rfl, TC, hno, .inl ⟨ha, fun dx h1 h2 => WP.of pss_nil (hq dx h1 h2)⟩⟩⟩
end
noncomputable def lawCell (s : List Int) (k : Int) : Int :=
  let c := if 0 < s.length then s.getD (k % s.length).toNat 0 else 0
  let m := (c % 2147483647 + 7919 * k + 1) * 48271 % 2147483647
  c / 2147483647 * 2147483647 + (m * 69621 + k) % 2147483647
noncomputable def cellS : Tw.Spec := fun A P _ => ∃ (s : Scr) (k : Int), A = [vl s, vl k] ∧ s.l.length ≤ 63 ∧ 0 ≤ k ∧ P (rv (lawCell s.l k))
theorem getD_ok {signs : Tx} (h : TxOk signs) (n : Nat) : signs.getD n 0 < 1114112 := by
  rw [List.getD_eq_getElem?_getD]
  cases e : signs[n]? with
  | none => decide
  | some x => exact h x (List.mem_of_getElem? e)
section
variable {P : Program} {w : World} {K : PySem.W.Frag} {mg : Str → Option Value} {base : Heap}
theorem mulR {i j : Int} (h1 : autoParam (-(2 ^ 64) < j) Tw.aDec) (h2 : autoParam (j < 2 ^ 64) Tw.aDec) : CMul i j := .inr ⟨h1, h2⟩
theorem mulL {i j : Int} (h1 : autoParam (-(2 ^ 64) < i) Tw.aDec) (h2 : autoParam (i < 2 ^ 64) Tw.aDec) : CMul i j := .inl ⟨h1, h2⟩
theorem divK {i j : Int} (h : autoParam (0 < j) Tw.aDec) (h2 : autoParam (j.natAbs.log2 < 9000) Tw.aDec) : CDivW i j := ⟨h, h2⟩
theorem divS {i j : Int} (h : 0 < j) (h2 : j < 2 ^ 30) : CDivW i j := ⟨h, by
  have : j.natAbs < 2 ^ 30 := by omega
  exact Nat.lt_trans ((Nat.log2_lt (by omega)).mpr this) (by decide)⟩
theorem ok_law_cell (T : Txt K mg) : Has P w K mg base 1 "_law_cell" ["_law_script", "_law_k"] cellS := by
  refine Has.of T.f_law_cell sc_law_cell (fun A Q R ⟨s, k, e, _⟩ => by rw [e]; rfl) fun f cdv A outer s0 H E hr Γ Q R ⟨s, k, e, hl, hk, hq⟩ => ?_
  subst e
  refine st_set 2 ev_int ?_ sc_law_cell.nd
  have go : ∀ c : Int, c = (if 0 < s.l.length then s.l.getD (k % s.l.length).toNat 0 else 0) → Tw.ST (cxOf (L2.CX P w) P w K mg base N_law_cell "_law_cell" (defScope s_law_cell) f cdv A outer s0 H E).nox ((defBody s_law_cell).drop 2) [vl s, vl k, vl c, .no] (fin Q) := by
    intro c ec
    refine st_set 3 (ev_bin (o_mod (by decide)) (ev_bin (o_mul mulR) (ev_bin o_add (ev_bin o_add (ev_bin (o_mod (by decide)) (ev_var 2) ev_int) (ev_bin (o_mul mulL) ev_int (ev_var 1))) ev_int) ev_int) ev_int) ?_ sc_law_cell.nd
    refine st_retV (ev_bin o_add (ev_bin (o_mul mulR) (ev_bin (o_div divK) (ev_var 2) ev_int) ev_int) (ev_bin (o_mod (by decide)) (ev_bin o_add (ev_bin (o_mul mulR) (ev_var 3) ev_int) (ev_var 1)) ev_int)) ?_
    unfold lawCell at hq
    rw [← ec] at hq
    exact hq
  refine st_if (k := decide (0 < s.l.length)) (et_eq (et_cmp o_gt (ev_lenScr T.b_len (ev_var 0)) ev_int) (decide_eq_decide.mpr (by omega))) (fun h => ?_) (fun h => ?_)
  · have h1 := of_decide_eq_true h
    have m1 := Int.emod_nonneg k (by omega : (s.l.length : Int) ≠ 0)
    have m2 := Int.emod_lt_of_pos k (by omega : (0 : Int) < s.l.length)
    have hlt : (k % s.l.length).toNat < s.l.length := by omega
    refine st_set 2 (ev_ixScr (x := s.l.getD (k % s.l.length).toNat 0) (ev_var 0) (ev_bin (o_mod (y := (s.l.length : Int)) (by omega)) (ev_var 1) (ev_lenScr T.b_len (ev_var 0))) ?_) (st_nil (go _ ?_)) sc_law_cell.nd
    · have := atI_nat (xs := s.l) (j := (k % s.l.length).toNat) (List.getElem?_eq_getElem hlt)
      rw [show (((k % s.l.length).toNat : Nat) : Int) = k % s.l.length by omega] at this
      rw [this, List.getD_eq_getElem?_getD, List.getElem?_eq_getElem hlt]; rfl
    · rw [if_pos h1]
  · have h1 := of_decide_eq_false h
    refine st_nil (go _ ?_)
    rw [if_neg h1]
end
noncomputable abbrev capTx : Tx := tx "ABCDEFGHIJKLMNOPQRSTUVWXYZ"
noncomputable abbrev smallTx : Tx := tx "abcdefghijklmnopqrstuvwxyz"
noncomputable def isName (x : Tx) : Bool := (decide (1 ≤ x.length) && decide (x.length ≤ 4)) && x.all fun c => decide (c ∈ capTx)
theorem isName_len {x : Tx} (h : isName x = true) : x.length ≤ 4 := by
  unfold isName at h
  simp only [Bool.and_eq_true, decide_eq_true_eq] at h
  exact h.1.2
theorem cap_lt : ∀ c ∈ capTx, c < 128 := by decide +kernel
theorem small_lt : ∀ c ∈ smallTx, c < 128 := by decide +kernel
theorem isName_ok {x : Tx} (h : isName x = true) : TxOk x := fun c hc => by
  unfold isName at h
  simp only [Bool.and_eq_true, List.all_eq_true, decide_eq_true_eq] at h
  have := cap_lt c (h.2 c hc)
  omega
set_option genInjectivity true in
inductive RuleD where
  | cell (name : Tx) (cost : Int) (sign : Tx)
  | beside (name : Tx) (cost : Int) (one other : Tx)
  | above (name : Tx) (cost : Int) (one other : Tx)
  | turn (name : Tx) (cost : Int) (part : Tx) (turning : Int)
  deriving DecidableEq
noncomputable def RuleD.cls : RuleD → Str
  | .cell .. => "CellRule"
  | .beside .. => "BesideRule"
  | .above .. => "AboveRule"
  | .turn .. => "TurnRule"
noncomputable def RuleD.name : RuleD → Tx
  | .cell n _ _ => n
  | .beside n _ _ _ => n
  | .above n _ _ _ => n
  | .turn n _ _ _ => n
noncomputable def RuleD.cost : RuleD → Int
  | .cell _ c _ => c
  | .beside _ c _ _ => c
  | .above _ c _ _ => c
  | .turn _ c _ _ => c
noncomputable def RuleD.parts : RuleD → List Tx
  | .cell .. => []
  | .beside _ _ a b => [a, b]
  | .above _ _ a b => [a, b]
  | .turn _ _ a _ => [a]
noncomputable def RuleD.flds : RuleD → List (Str × Slot)
  | .cell n c s => [("name", vl n), ("cost", vl c), ("sign", vl s)]
  | .beside n c a b => [("name", vl n), ("cost", vl c), ("one", vl a), ("other", vl b)]
  | .above n c a b => [("name", vl n), ("cost", vl c), ("one", vl a), ("other", vl b)]
  | .turn n c a t => [("name", vl n), ("cost", vl c), ("part", vl a), ("turning", vl t)]
noncomputable instance : Inst RuleD := ⟨RuleD.cls, RuleD.flds⟩
noncomputable def costOk (c : Int) : Bool := decide (1 ≤ c) && decide (c ≤ 9)
noncomputable def signOk (s : Tx) : Bool := decide (s.length = 1) && s.all fun c => decide (c ∈ smallTx)
noncomputable def RuleD.good : RuleD → Bool
  | .cell n c s => signOk s && (costOk c && isName n)
  | .beside n c a b => (costOk c && isName n) && (isName a && isName b)
  | .above n c a b => (costOk c && isName n) && (isName a && isName b)
  | .turn n c a t => (decide (0 ≤ t) && decide (t ≤ 7)) && ((costOk c && isName n) && isName a)
noncomputable def NoRule : Exn := ⟨"NoRule", "", .no⟩
noncomputable def nameS : Tw.Spec := fun A P _ => ∃ (x : Tx), A = [vl x] ∧ x.length ≤ 1000 ∧ P (rv (isName x))
noncomputable def askedS : Tw.Spec := fun A P R => ∃ (x : Tx), A = [vl x] ∧ x.length ≤ 1000 ∧ (isName x = true → P (rv x)) ∧ (isName x = false → R NoRule)
noncomputable def ruleInitS (K : PySem.W.Frag) : Tw.Spec := fun A P R => ∃ (C a dx : Addr) (n : Tx) (c : Int), A = [.own (ownI C a dx []), vl n, vl c] ∧ Cls K C ∧ NoAttr K C "name" ∧ NoAttr K C "cost" ∧ n.length ≤ 1000 ∧
  ((costOk c && isName n) = true → P (.chg repUnit () [ownI C a dx [("name", vl n), ("cost", vl c)]])) ∧ ((costOk c && isName n) = false → R NoRule)
noncomputable def cellInitS (K : PySem.W.Frag) : Tw.Spec := fun A P R => ∃ (C a dx : Addr) (n : Tx) (c : Int) (s : Tx), A = [.own (ownI C a dx []), vl n, vl c, vl s] ∧ PySem.W.nsIn K mainGlobals "CellRule" = some (some (.ref C)) ∧ n.length ≤ 1000 ∧ s.length ≤ 1000 ∧
  ((RuleD.cell n c s).good = true → P (.chg repUnit () [ownI C a dx (RuleD.cell n c s).flds])) ∧ ((RuleD.cell n c s).good = false → R NoRule)
noncomputable def besideInitS (K : PySem.W.Frag) : Tw.Spec := fun A P R => ∃ (C a dx : Addr) (n : Tx) (c : Int) (x y : Tx), A = [.own (ownI C a dx []), vl n, vl c, vl x, vl y] ∧ PySem.W.nsIn K mainGlobals "BesideRule" = some (some (.ref C)) ∧ n.length ≤ 1000 ∧ x.length ≤ 1000 ∧ y.length ≤ 1000 ∧
  ((RuleD.beside n c x y).good = true → P (.chg repUnit () [ownI C a dx (RuleD.beside n c x y).flds])) ∧ ((RuleD.beside n c x y).good = false → R NoRule)
noncomputable def aboveInitS (K : PySem.W.Frag) : Tw.Spec := fun A P R => ∃ (C a dx : Addr) (n : Tx) (c : Int) (x y : Tx), A = [.own (ownI C a dx []), vl n, vl c, vl x, vl y] ∧ PySem.W.nsIn K mainGlobals "AboveRule" = some (some (.ref C)) ∧ n.length ≤ 1000 ∧ x.length ≤ 1000 ∧ y.length ≤ 1000 ∧
  ((RuleD.above n c x y).good = true → P (.chg repUnit () [ownI C a dx (RuleD.above n c x y).flds])) ∧ ((RuleD.above n c x y).good = false → R NoRule)
noncomputable def turnInitS (K : PySem.W.Frag) : Tw.Spec := fun A P R => ∃ (C a dx : Addr) (n : Tx) (c : Int) (x : Tx) (t : Int), A = [.own (ownI C a dx []), vl n, vl c, vl x, vl t] ∧ PySem.W.nsIn K mainGlobals "TurnRule" = some (some (.ref C)) ∧ n.length ≤ 1000 ∧ x.length ≤ 1000 ∧
  ((RuleD.turn n c x t).good = true → P (.chg repUnit () [ownI C a dx (RuleD.turn n c x t).flds])) ∧ ((RuleD.turn n c x t).good = false → R NoRule)
theorem OC.cl {K : PySem.W.Frag} {mg : Str → Option Value} {n : Str} {C : Addr} (h : OC K mg n) (e : PySem.W.nsIn K mainGlobals n = some (some (.ref C))) : Cls K C := by
  obtain ⟨D, kD, _⟩ := h
  obtain rfl := ns_one kD.ns e
  exact kD.cl
section
variable {P : Program} {w : World} {K : PySem.W.Frag} {mg : Str → Option Value} {base : Heap}
theorem lk {f : Str} {fs : List (Str × Slot)} (h : (fs.map (·.1)).contains f = false) : fs.lookup f = none := by
  induction fs with
  | nil => rfl
  | cons p fs ih =>
    obtain ⟨g, s⟩ := p
    rw [List.map_cons, List.contains_cons, Bool.or_eq_false_iff] at h
    rw [lookup_ne (by simpa using h.1)]
    exact ih h.2
theorem ok_is_name (T : Txt K mg) : Has P w K mg base 1 "is_name" ["text"] nameS := by
  refine Has.of T.f_is_name sc_is_name (fun A Q R ⟨x, e, _⟩ => by rw [e]; rfl) fun f cdv A outer s0 H E hr Γ Q R ⟨x, e, hl, hq⟩ => ?_
  subst e
  refine st_retV (ev_eq (y := isName x) (ev_and2 (ev_chain o_le (fun _ => o_le) ev_int (ev_lenS T.b_len (ev_var 0) (sl_small (by omega))) (fun _ => ev_gintE T.c_MOST_LETTERS)) fun _ => ev_all T.b_all (ev_of_en (en_lc (α := Tx) (β := Bool) (own := [("sign", 1)]) (f := fun y => decide (y.headD 0 ∈ capTx)) (src_str (ev_var 0)) (tg_name 1) (fun _ _ _ _ _ => pgn 1 sc_is_name.nd)
    (fun y hy _ _ _ _ _ => ?_) sc_is_name.nd (ok := bk_is_name (by decide +kernel)) (hz := by rw [List.length_map]; exact sl_small (by omega))))) ?_) hq
  · obtain ⟨c, _, rfl⟩ := List.mem_map.mp hy
    exact ev_cmp o_inS (ev_var 1) (ev_gstrE T.c_CAPITALS)
  · unfold isName
    rw [List.map_map, List.all_map]
    congr 1
    congr 1
    · exact decide_eq_decide.mpr (by omega)
    · exact decide_eq_decide.mpr (by omega)
theorem ok_asked_name (T : Txt K mg) : Has P w K mg base 2 "asked_name" ["text"] askedS := by
  refine Has.ofX T.f_asked_name sc_asked_name (fun A Q R ⟨x, e, _⟩ => by rw [e]; rfl) fun f cdv A outer s0 H E hr Γ Q R ⟨x, e, hl, h1, h2⟩ => ?_
  subst e
  refine st_if (et_not (et_val (ev_call (x := isName x) (ok_is_name T) (hr.mono (by decide)) (ea_cons (ev_var 0) ea_nil) fun P R h => ⟨x, rfl, hl, h⟩))) (fun h => ?_) (fun h => st_nil ?_)
  · exact st_raise0 T.x_NoRule T.p_NoRule (h2 (by simpa using h))
  · exact st_retV (ev_var 0) (h1 (by simpa using h))
theorem ok_Rule_init (T : Txt K mg) : HasM P w K mg base 3 "Rule" "__init__" ["self", "name", "cost"] (ruleInitS K) := by
  refine HasM.ofI T.m_Rule_init sc_Rule_init (fun A Q R ⟨C, a, dx, n, c, e, _⟩ => by rw [e]; rfl) fun f cdv A outer s0 H E hr Γ Q R ⟨C, a, dx, n, c, e, hc, hn1, hn2, hl, h1, h2⟩ => ⟨ownI C a dx [], ?_⟩
  subst e
  refine st_if (et_or (et_cmp o_lt (ev_var 2) ev_int) fun _ => et_cmp o_gt (ev_var 2) (ev_gintE T.c_MOST_COST)) (fun h => ?_) (fun h => st_nil ?_)
  · have hb : costOk c = false := by
      unfold costOk
      simp only [Bool.or_eq_true, decide_eq_true_eq, Bool.and_eq_false_iff, decide_eq_false_iff_not] at h ⊢
      omega
    exact st_raise0 T.x_NoRule T.p_NoRule (h2 (by rw [hb]; rfl))
  have hb : costOk c = true := by
    unfold costOk
    simp only [Bool.or_eq_false_iff, decide_eq_false_iff_not, Bool.and_eq_true, decide_eq_true_eq] at h ⊢
    omega
  rw [hb, Bool.true_and] at h1 h2
  cases hn : isName n with
  | false =>
    exact st_setFR (R := fun y => y = NoRule) (exx_call (ok_asked_name T) (hr.mono (by decide)) (ea_cons (ev_var 1) ea_nil) fun P' R' _ h => ⟨n, rfl, hl, fun z => by (rw [hn] at z; cases z), fun _ => h _ rfl⟩) (fun x e => e ▸ h2 hn) 0
  | true =>
    refine st_setF 0 (fs := []) (ev_call (x := n) (ok_asked_name T) (hr.mono (by decide)) (ea_cons (ev_var 1) ea_nil) fun P' R' h => ⟨n, rfl, hl, fun _ => h, fun z => by rw [hn] at z; cases z⟩) ?_ hc hn1 rfl
    exact st_setF 0 (fs := [("name", vl n)]) (ev_var 2) (st_nil ⟨_, rfl, rfl, h1 hn⟩) hc hn2 (lk rfl)
theorem ok_CellRule_init (T : Txt K mg) : HasM P w K mg base 4 "CellRule" "__init__" ["self", "name", "cost", "sign"] (cellInitS K) := by
  refine HasM.ofI T.m_CellRule_init sc_CellRule_init (fun A Q R ⟨C, a, dx, n, c, s, e, _⟩ => by rw [e]; rfl) fun f cdv A outer s0 H E hr Γ Q R ⟨C, a, dx, n, c, s, e, hC, hl, hls, h1, h2⟩ => ⟨ownI C a dx [], ?_⟩
  subst e
  have hc := OC.cl T.o_CellRule hC
  have key : ∀ k : Bool, k = signOk s → ((k = true → (RuleD.cell n c s).good = (costOk c && isName n)) ∧ (k = false → (RuleD.cell n c s).good = false)) := fun k e => by
    subst e
    show (_ → (signOk s && (costOk c && isName n)) = _) ∧ (_ → (signOk s && (costOk c && isName n)) = _)
    exact ⟨fun h => by rw [h, Bool.true_and], fun h => by rw [h, Bool.false_and]⟩
  have hlen : EV (cxOf (L2.CX P w) P w K mg base N_CellRule_init "CellRule.__init__" (defScope s_CellRule_init) f cdv A outer s0 H E) [.own (ownI C a dx []), vl n, vl c, vl s] = EV (cxOf (L2.CX P w) P w K mg base N_CellRule_init "CellRule.__init__" (defScope s_CellRule_init) f cdv A outer s0 H E) [.own (ownI C a dx []), vl n, vl c, vl s] := rfl
  have rest : signOk s = true → Tw.ST (cxOf (L2.CX P w) P w K mg base N_CellRule_init "CellRule.__init__" (defScope s_CellRule_init) f cdv A outer s0 H E) ((defBody s_CellRule_init).drop 1) [.own (ownI C a dx []), vl n, vl c, vl s] (finI (ownI C a dx []) Q R) := fun hs => by
    have hg := (key _ rfl).1 hs
    cases hnc : (costOk c && isName n) with
    | false =>
      rw [hnc] at hg
      exact st_dropG (P := fun _ _ => False) (R := fun y Γ' => y = NoRule) (eg_cinit 0 (G := fun _ _ => False) T.o_Rule T.z_Rule (ok_Rule_init T) (hr.mono (by decide)) (eab_o 0 (eab_v (ev_var 1) (eab_v (ev_var 2) eab_nil))) rfl rfl (fun _ _ z => z.elim) (fun _ _ z => z.elim) fun P' R' _ h => ⟨C, a, dx, n, c, rfl, hc, T.a_CellRule_name C hC, T.a_CellRule_cost C hC, hl, fun z => by (rw [hnc] at z; cases z), fun _ => h _ rfl⟩) (fun _ _ z => z.elim) (fun y Γ' e => e ▸ h2 hg)
    | true =>
      rw [hnc] at hg
      refine st_dropG (P := fun _ Γ' => Γ' = _) (R := fun y Γ' => False) (eg_cinit 0 (G := fun _ o' => o' = ownI C a dx [("name", vl n), ("cost", vl c)]) T.o_Rule T.z_Rule (ok_Rule_init T) (hr.mono (by decide)) (eab_o 0 (eab_v (ev_var 1) (eab_v (ev_var 2) eab_nil))) rfl rfl (fun _ o' e => by (rw [e]; rfl)) (fun _ o' e => by rw [e]) fun P' R' h _ => ⟨C, a, dx, n, c, rfl, hc, T.a_CellRule_name C hC, T.a_CellRule_cost C hC, hl, fun _ => h () _ rfl, fun z => by rw [hnc] at z; cases z⟩) (fun _ Γ' e => e ▸ ?_) (fun y Γ' z => z.elim)
      exact st_setF 0 (fs := [("name", vl n), ("cost", vl c)]) (ev_var 3) (st_nil ⟨_, rfl, rfl, h1 hg⟩) hc (T.a_CellRule_sign C hC) (lk rfl)
  by_cases h1s : s.length = 1
  · obtain ⟨d, rfl⟩ : ∃ d, s = [d] := by
      match s, h1s with
      | [d], _ => exact ⟨d, rfl⟩
    refine st_if (et_or (et_cmp o_ne (ev_lenS T.b_len (ev_var 3) (sl_small (by simp))) ev_int) fun _ => et_cmp (o_notInS (c := d)) (ev_var 3) (ev_gstrE T.c_SMALL)) (fun h => ?_) (fun h => st_nil (rest ?_))
    · have h' : (!decide (d ∈ smallTx)) = true := h
      refine st_raise0 T.x_NoRule T.p_NoRule (h2 ((key _ rfl).2 ?_))
      show (true && (decide (d ∈ smallTx) && true)) = false
      generalize decide (d ∈ smallTx) = k at h' ⊢
      revert h'; cases k <;> decide
    · have h' : (!decide (d ∈ smallTx)) = false := h
      show (true && (decide (d ∈ smallTx) && true)) = true
      generalize decide (d ∈ smallTx) = k at h' ⊢
      revert h'; cases k <;> decide
  · refine st_if (k := true) (et_eq (et_or (m := false) (et_cmp o_ne (ev_lenS T.b_len (ev_var 3) (sl_small (by omega))) ev_int) fun h => absurd h ?_) ?_) (fun _ => st_raise0 T.x_NoRule T.p_NoRule (h2 ((key _ rfl).2 ?_))) (fun h => nomatch h)
    · simp; omega
    · simp; omega
    · unfold signOk
      rw [decide_eq_false h1s]; rfl
theorem ok_BesideRule_init (T : Txt K mg) : HasM P w K mg base 4 "BesideRule" "__init__" ["self", "name", "cost", "one", "other"] (besideInitS K) := by
  refine HasM.ofI T.m_BesideRule_init sc_BesideRule_init (fun A Q R ⟨C, a, dx, n, c, x, y, e, _⟩ => by rw [e]; rfl) fun f cdv A outer s0 H E hr Γ Q R ⟨C, a, dx, n, c, x, y, e, hC, hl, hlx, hly, h1, h2⟩ => ⟨ownI C a dx [], ?_⟩
  subst e
  have hc := OC.cl T.o_BesideRule hC
  cases hnc : (costOk c && isName n) with
  | false =>
    refine st_dropG (P := fun _ _ => False) (R := fun y Γ' => y = NoRule) (eg_cinit 0 (G := fun _ _ => False) T.o_Rule T.z_Rule (ok_Rule_init T) (hr.mono (by decide)) (eab_o 0 (eab_v (ev_var 1) (eab_v (ev_var 2) eab_nil))) rfl rfl (fun _ _ z => z.elim) (fun _ _ z => z.elim) fun P' R' _ h => ⟨C, a, dx, n, c, rfl, hc, T.a_BesideRule_name C hC, T.a_BesideRule_cost C hC, hl, fun z => by (rw [hnc] at z; cases z), fun _ => h _ rfl⟩) (fun _ _ z => z.elim) (fun y' Γ' e => e ▸ h2 ?_)
    show ((costOk c && isName n) && (isName x && isName y)) = false
    rw [hnc]; rfl
  | true =>
    refine st_dropG (P := fun _ Γ' => Γ' = _) (R := fun y Γ' => False) (eg_cinit 0 (G := fun _ o' => o' = ownI C a dx [("name", vl n), ("cost", vl c)]) T.o_Rule T.z_Rule (ok_Rule_init T) (hr.mono (by decide)) (eab_o 0 (eab_v (ev_var 1) (eab_v (ev_var 2) eab_nil))) rfl rfl (fun _ o' e => by (rw [e]; rfl)) (fun _ o' e => by rw [e]) fun P' R' h _ => ⟨C, a, dx, n, c, rfl, hc, T.a_BesideRule_name C hC, T.a_BesideRule_cost C hC, hl, fun _ => h () _ rfl, fun z => by rw [hnc] at z; cases z⟩) (fun _ Γ' e => e ▸ ?_) (fun y Γ' z => z.elim)
    cases hx : isName x with
    | false =>
      refine st_setFR (R := fun y => y = NoRule) (exx_call (ok_asked_name T) (hr.mono (by decide)) (ea_cons (ev_var 3) ea_nil) fun P' R' _ h => ⟨x, rfl, hlx, fun z => by (rw [hx] at z; cases z), fun _ => h _ rfl⟩) (fun y' e => e ▸ h2 ?_) 0
      show ((costOk c && isName n) && (isName x && isName y)) = false
      rw [hnc, hx]; rfl
    | true =>
      refine st_setF 0 (fs := [("name", vl n), ("cost", vl c)]) (ev_call (x := x) (ok_asked_name T) (hr.mono (by decide)) (ea_cons (ev_var 3) ea_nil) fun P' R' h => ⟨x, rfl, hlx, fun _ => h, fun z => by rw [hx] at z; cases z⟩) ?_ hc (T.a_BesideRule_one C hC) (lk rfl)
      cases hy : isName y with
      | false =>
        refine st_setFR (R := fun y => y = NoRule) (exx_call (ok_asked_name T) (hr.mono (by decide)) (ea_cons (ev_var 4) ea_nil) fun P' R' _ h => ⟨y, rfl, hly, fun z => by (rw [hy] at z; cases z), fun _ => h _ rfl⟩) (fun y' e => e ▸ h2 ?_) 0
        show ((costOk c && isName n) && (isName x && isName y)) = false
        rw [hnc, hx, hy]; rfl
      | true =>
        refine st_setF 0 (fs := [("name", vl n), ("cost", vl c), ("one", vl x)]) (ev_call (x := y) (ok_asked_name T) (hr.mono (by decide)) (ea_cons (ev_var 4) ea_nil) fun P' R' h => ⟨y, rfl, hly, fun _ => h, fun z => by rw [hy] at z; cases z⟩) (st_nil ⟨_, rfl, rfl, h1 ?_⟩) hc (T.a_BesideRule_other C hC) (lk rfl)
        show ((costOk c && isName n) && (isName x && isName y)) = true
        rw [hnc, hx, hy]; rfl
theorem ok_AboveRule_init (T : Txt K mg) : HasM P w K mg base 4 "AboveRule" "__init__" ["self", "name", "cost", "one", "other"] (aboveInitS K) := by
  refine HasM.ofI T.m_AboveRule_init sc_AboveRule_init (fun A Q R ⟨C, a, dx, n, c, x, y, e, _⟩ => by rw [e]; rfl) fun f cdv A outer s0 H E hr Γ Q R ⟨C, a, dx, n, c, x, y, e, hC, hl, hlx, hly, h1, h2⟩ => ⟨ownI C a dx [], ?_⟩
  subst e
  have hc := OC.cl T.o_AboveRule hC
  cases hnc : (costOk c && isName n) with
  | false =>
    refine st_dropG (P := fun _ _ => False) (R := fun y Γ' => y = NoRule) (eg_cinit 0 (G := fun _ _ => False) T.o_Rule T.z_Rule (ok_Rule_init T) (hr.mono (by decide)) (eab_o 0 (eab_v (ev_var 1) (eab_v (ev_var 2) eab_nil))) rfl rfl (fun _ _ z => z.elim) (fun _ _ z => z.elim) fun P' R' _ h => ⟨C, a, dx, n, c, rfl, hc, T.a_AboveRule_name C hC, T.a_AboveRule_cost C hC, hl, fun z => by (rw [hnc] at z; cases z), fun _ => h _ rfl⟩) (fun _ _ z => z.elim) (fun y' Γ' e => e ▸ h2 ?_)
    show ((costOk c && isName n) && (isName x && isName y)) = false
    rw [hnc]; rfl
  | true =>
    refine st_dropG (P := fun _ Γ' => Γ' = _) (R := fun y Γ' => False) (eg_cinit 0 (G := fun _ o' => o' = ownI C a dx [("name", vl n), ("cost", vl c)]) T.o_Rule T.z_Rule (ok_Rule_init T) (hr.mono (by decide)) (eab_o 0 (eab_v (ev_var 1) (eab_v (ev_var 2) eab_nil))) rfl rfl (fun _ o' e => by (rw [e]; rfl)) (fun _ o' e => by rw [e]) fun P' R' h _ => ⟨C, a, dx, n, c, rfl, hc, T.a_AboveRule_name C hC, T.a_AboveRule_cost C hC, hl, fun _ => h () _ rfl, fun z => by rw [hnc] at z; cases z⟩) (fun _ Γ' e => e ▸ ?_) (fun y Γ' z => z.elim)
    cases hx : isName x with
    | false =>
      refine st_setFR (R := fun y => y = NoRule) (exx_call (ok_asked_name T) (hr.mono (by decide)) (ea_cons (ev_var 3) ea_nil) fun P' R' _ h => ⟨x, rfl, hlx, fun z => by (rw [hx] at z; cases z), fun _ => h _ rfl⟩) (fun y' e => e ▸ h2 ?_) 0
      show ((costOk c && isName n) && (isName x && isName y)) = false
      rw [hnc, hx]; rfl
    | true =>
      refine st_setF 0 (fs := [("name", vl n), ("cost", vl c)]) (ev_call (x := x) (ok_asked_name T) (hr.mono (by decide)) (ea_cons (ev_var 3) ea_nil) fun P' R' h => ⟨x, rfl, hlx, fun _ => h, fun z => by rw [hx] at z; cases z⟩) ?_ hc (T.a_AboveRule_one C hC) (lk rfl)
      cases hy : isName y with
      | false =>
        refine st_setFR (R := fun y => y = NoRule) (exx_call (ok_asked_name T) (hr.mono (by decide)) (ea_cons (ev_var 4) ea_nil) fun P' R' _ h => ⟨y, rfl, hly, fun z => by (rw [hy] at z; cases z), fun _ => h _ rfl⟩) (fun y' e => e ▸ h2 ?_) 0
        show ((costOk c && isName n) && (isName x && isName y)) = false
        rw [hnc, hx, hy]; rfl
      | true =>
        refine st_setF 0 (fs := [("name", vl n), ("cost", vl c), ("one", vl x)]) (ev_call (x := y) (ok_asked_name T) (hr.mono (by decide)) (ea_cons (ev_var 4) ea_nil) fun P' R' h => ⟨y, rfl, hly, fun _ => h, fun z => by rw [hy] at z; cases z⟩) (st_nil ⟨_, rfl, rfl, h1 ?_⟩) hc (T.a_AboveRule_other C hC) (lk rfl)
        show ((costOk c && isName n) && (isName x && isName y)) = true
        rw [hnc, hx, hy]; rfl
theorem ok_TurnRule_init (T : Txt K mg) : HasM P w K mg base 4 "TurnRule" "__init__" ["self", "name", "cost", "part", "turning"] (turnInitS K) := by
  refine HasM.ofI T.m_TurnRule_init sc_TurnRule_init (fun A Q R ⟨C, a, dx, n, c, x, t, e, _⟩ => by rw [e]; rfl) fun f cdv A outer s0 H E hr Γ Q R ⟨C, a, dx, n, c, x, t, e, hC, hl, hlx, h1, h2⟩ => ⟨ownI C a dx [], ?_⟩
  subst e
  have hc := OC.cl T.o_TurnRule hC
  have good : (RuleD.turn n c x t).good = ((decide (0 ≤ t) && decide (t ≤ 7)) && ((costOk c && isName n) && isName x)) := rfl
  rw [good] at h1 h2
  refine st_if (et_or (et_cmp o_lt (ev_var 4) ev_int) fun _ => et_cmp o_gt (ev_var 4) ev_int) (fun h => ?_) (fun h => st_nil ?_)
  · refine st_raise0 T.x_NoRule T.p_NoRule (h2 ?_)
    have : (decide (0 ≤ t) && decide (t ≤ 7)) = false := by
      simp only [Bool.or_eq_true, decide_eq_true_eq, Bool.and_eq_false_iff, decide_eq_false_iff_not] at h ⊢
      omega
    rw [this]; rfl
  have ht : (decide (0 ≤ t) && decide (t ≤ 7)) = true := by
    simp only [Bool.or_eq_false_iff, decide_eq_false_iff_not, Bool.and_eq_true, decide_eq_true_eq] at h ⊢
    omega
  rw [ht, Bool.true_and] at h1 h2
  cases hnc : (costOk c && isName n) with
  | false =>
    exact st_dropG (P := fun _ _ => False) (R := fun y Γ' => y = NoRule) (eg_cinit 0 (G := fun _ _ => False) T.o_Rule T.z_Rule (ok_Rule_init T) (hr.mono (by decide)) (eab_o 0 (eab_v (ev_var 1) (eab_v (ev_var 2) eab_nil))) rfl rfl (fun _ _ z => z.elim) (fun _ _ z => z.elim) fun P' R' _ h => ⟨C, a, dx, n, c, rfl, hc, T.a_TurnRule_name C hC, T.a_TurnRule_cost C hC, hl, fun z => by (rw [hnc] at z; cases z), fun _ => h _ rfl⟩) (fun _ _ z => z.elim) (fun y Γ' e => e ▸ h2 (by rw [hnc]; rfl))
  | true =>
    rw [hnc, Bool.true_and] at h1 h2
    refine st_dropG (P := fun _ Γ' => Γ' = _) (R := fun y Γ' => False) (eg_cinit 0 (G := fun _ o' => o' = ownI C a dx [("name", vl n), ("cost", vl c)]) T.o_Rule T.z_Rule (ok_Rule_init T) (hr.mono (by decide)) (eab_o 0 (eab_v (ev_var 1) (eab_v (ev_var 2) eab_nil))) rfl rfl (fun _ o' e => by (rw [e]; rfl)) (fun _ o' e => by rw [e]) fun P' R' h _ => ⟨C, a, dx, n, c, rfl, hc, T.a_TurnRule_name C hC, T.a_TurnRule_cost C hC, hl, fun _ => h () _ rfl, fun z => by rw [hnc] at z; cases z⟩) (fun _ Γ' e => e ▸ ?_) (fun y Γ' z => z.elim)
    cases hx : isName x with
    | false => exact st_setFR (R := fun y => y = NoRule) (exx_call (ok_asked_name T) (hr.mono (by decide)) (ea_cons (ev_var 3) ea_nil) fun P' R' _ h => ⟨x, rfl, hlx, fun z => by (rw [hx] at z; cases z), fun _ => h _ rfl⟩) (fun y' e => e ▸ h2 hx) 0
    | true =>
      refine st_setF 0 (fs := [("name", vl n), ("cost", vl c)]) (ev_call (x := x) (ok_asked_name T) (hr.mono (by decide)) (ea_cons (ev_var 3) ea_nil) fun P' R' h => ⟨x, rfl, hlx, fun _ => h, fun z => by rw [hx] at z; cases z⟩) ?_ hc (T.a_TurnRule_part C hC) (lk rfl)
      exact st_setF 0 (fs := [("name", vl n), ("cost", vl c), ("part", vl x)]) (ev_var 4) (st_nil ⟨_, rfl, rfl, h1 hx⟩) hc (T.a_TurnRule_turning C hC) (lk rfl)
end
theorem RuleD.f_name (r : RuleD) : r.flds.lookup ("name" : Str) = some (vl r.name) := by cases r <;> rfl
theorem RuleD.f_cost (r : RuleD) : r.flds.lookup ("cost" : Str) = some (vl r.cost) := by cases r <;> rfl
theorem costOk_of {c : Int} (h : costOk c = true) : 1 ≤ c ∧ c ≤ 9 := by
  unfold costOk at h
  simpa using h
theorem signOk_of {s : Tx} (h : signOk s = true) : s.length = 1 := by
  unfold signOk at h
  rw [Bool.and_eq_true, decide_eq_true_eq] at h
  exact h.1
theorem RuleD.good_of {r : RuleD} (h : r.good = true) : isName r.name = true ∧ costOk r.cost = true := by
  cases r <;> simp only [RuleD.good, Bool.and_eq_true] at h <;> simp_all [RuleD.name, RuleD.cost]
theorem RuleD.bounds {r : RuleD} (h : r.good = true) : r.name.length ≤ 4 ∧ 1 ≤ r.cost ∧ r.cost ≤ 9 := by
  obtain ⟨h1, h2⟩ := RuleD.good_of h
  have := costOk_of h2
  exact ⟨isName_len h1, this⟩
section
variable {K : PySem.W.Frag} {mg : Str → Option Value}
theorem o_cls (T : Txt K mg) (r : RuleD) : OC K mg r.cls := by
  cases r
  · exact T.o_CellRule
  · exact T.o_BesideRule
  · exact T.o_AboveRule
  · exact T.o_TurnRule
theorem a_name (T : Txt K mg) (r : RuleD) : NoA K r.cls "name" := by
  cases r
  · exact T.a_CellRule_name
  · exact T.a_BesideRule_name
  · exact T.a_AboveRule_name
  · exact T.a_TurnRule_name
theorem a_cost (T : Txt K mg) (r : RuleD) : NoA K r.cls "cost" := by
  cases r
  · exact T.a_CellRule_cost
  · exact T.a_BesideRule_cost
  · exact T.a_AboveRule_cost
  · exact T.a_TurnRule_cost
end
noncomputable def RuleD.short : RuleD → Prop
  | .cell n _ s => n.length ≤ 1000 ∧ s.length ≤ 1000
  | .beside n _ a b => n.length ≤ 1000 ∧ a.length ≤ 1000 ∧ b.length ≤ 1000
  | .above n _ a b => n.length ≤ 1000 ∧ a.length ≤ 1000 ∧ b.length ≤ 1000
  | .turn n _ a _ => n.length ≤ 1000 ∧ a.length ≤ 1000
theorem RuleD.good_short {r : RuleD} (h : r.good = true) : r.short := by
  cases r <;> simp only [RuleD.good, Bool.and_eq_true] at h
  · have := isName_len h.2.2; have := signOk_of h.1; exact ⟨by omega, by omega⟩
  · have := isName_len h.1.2; have := isName_len h.2.1; have := isName_len h.2.2; exact ⟨by omega, by omega, by omega⟩
  · have := isName_len h.1.2; have := isName_len h.2.1; have := isName_len h.2.2; exact ⟨by omega, by omega, by omega⟩
  · have := isName_len h.2.1.2; have := isName_len h.2.2; exact ⟨by omega, by omega⟩
section
variable {X : Cx} {Γ : List Slot} {pos p : Pos} {e : Expr} {es : List Expr} {k : Nat} {n s x y : Tx} {c t : Int}
theorem mkx_cell (T : Txt X.K X.mg) (hr : Room k X.A) (ha : EA X Γ (e :: es) [vl n, vl c, vl s]) (h1 : n.length ≤ 1000) (h2 : s.length ≤ 1000) (hk : autoParam (5 ≤ k) Tw.aDec) (hg : autoParam (Gl X "CellRule") Tw.aRfl) (he : autoParam (starEach (e :: es) X.env = (false, eval e X.env) :: starEach es X.env) Tw.aStar) (hpl : autoParam ((backTo pos (starEach es X.env)).any (·.1) = false) Tw.aPl) :
    EXX X Γ (.Call (.Name "CellRule" p) (e :: es) [] pos) (fun r => r = rv (RuleD.cell n c s) ∧ (RuleD.cell n c s).good = true) (fun y => y = NoRule ∧ (RuleD.cell n c s).good = false) := by
  cases hgd : (RuleD.cell n c s).good with
  | true => exact exx_imp (R := fun _ => False) (exx_makeV (x := RuleD.cell n c s) T.o_CellRule (ok_CellRule_init T) (hr.mono hk) rfl ha (fun C hC ad dx P' R' h _ => ⟨C, ad, dx, n, c, s, rfl, hC, h1, h2, fun _ => h, fun z => by rw [hgd] at z; cases z⟩) hg (by decide) he hpl) (fun r e => ⟨e, rfl⟩) fun _ z => z.elim
  | false => exact exx_imp (P := fun _ => False) (R := fun y => y = NoRule) (exx_make (fs := []) T.o_CellRule (ok_CellRule_init T) (hr.mono hk) ha (fun C hC ad dx P' R' _ h => ⟨C, ad, dx, n, c, s, rfl, hC, h1, h2, fun z => by (rw [hgd] at z; cases z), fun _ => h _ rfl⟩) hg (by decide) he hpl) (fun _ z => z.elim) fun y e => ⟨e, rfl⟩
theorem mkx_beside (T : Txt X.K X.mg) (hr : Room k X.A) (ha : EA X Γ (e :: es) [vl n, vl c, vl x, vl y]) (h1 : n.length ≤ 1000) (h2 : x.length ≤ 1000) (h3 : y.length ≤ 1000) (hk : autoParam (5 ≤ k) Tw.aDec) (hg : autoParam (Gl X "BesideRule") Tw.aRfl) (he : autoParam (starEach (e :: es) X.env = (false, eval e X.env) :: starEach es X.env) Tw.aStar) (hpl : autoParam ((backTo pos (starEach es X.env)).any (·.1) = false) Tw.aPl) :
    EXX X Γ (.Call (.Name "BesideRule" p) (e :: es) [] pos) (fun r => r = rv (RuleD.beside n c x y) ∧ (RuleD.beside n c x y).good = true) (fun z => z = NoRule ∧ (RuleD.beside n c x y).good = false) := by
  cases hgd : (RuleD.beside n c x y).good with
  | true => exact exx_imp (R := fun _ => False) (exx_makeV (x := RuleD.beside n c x y) T.o_BesideRule (ok_BesideRule_init T) (hr.mono hk) rfl ha (fun C hC ad dx P' R' h _ => ⟨C, ad, dx, n, c, x, y, rfl, hC, h1, h2, h3, fun _ => h, fun z => by rw [hgd] at z; cases z⟩) hg (by decide) he hpl) (fun r e => ⟨e, rfl⟩) fun _ z => z.elim
  | false => exact exx_imp (P := fun _ => False) (R := fun y => y = NoRule) (exx_make (fs := []) T.o_BesideRule (ok_BesideRule_init T) (hr.mono hk) ha (fun C hC ad dx P' R' _ h => ⟨C, ad, dx, n, c, x, y, rfl, hC, h1, h2, h3, fun z => by (rw [hgd] at z; cases z), fun _ => h _ rfl⟩) hg (by decide) he hpl) (fun _ z => z.elim) fun y e => ⟨e, rfl⟩
theorem mkx_above (T : Txt X.K X.mg) (hr : Room k X.A) (ha : EA X Γ (e :: es) [vl n, vl c, vl x, vl y]) (h1 : n.length ≤ 1000) (h2 : x.length ≤ 1000) (h3 : y.length ≤ 1000) (hk : autoParam (5 ≤ k) Tw.aDec) (hg : autoParam (Gl X "AboveRule") Tw.aRfl) (he : autoParam (starEach (e :: es) X.env = (false, eval e X.env) :: starEach es X.env) Tw.aStar) (hpl : autoParam ((backTo pos (starEach es X.env)).any (·.1) = false) Tw.aPl) :
    EXX X Γ (.Call (.Name "AboveRule" p) (e :: es) [] pos) (fun r => r = rv (RuleD.above n c x y) ∧ (RuleD.above n c x y).good = true) (fun z => z = NoRule ∧ (RuleD.above n c x y).good = false) := by
  cases hgd : (RuleD.above n c x y).good with
  | true => exact exx_imp (R := fun _ => False) (exx_makeV (x := RuleD.above n c x y) T.o_AboveRule (ok_AboveRule_init T) (hr.mono hk) rfl ha (fun C hC ad dx P' R' h _ => ⟨C, ad, dx, n, c, x, y, rfl, hC, h1, h2, h3, fun _ => h, fun z => by rw [hgd] at z; cases z⟩) hg (by decide) he hpl) (fun r e => ⟨e, rfl⟩) fun _ z => z.elim
  | false => exact exx_imp (P := fun _ => False) (R := fun y => y = NoRule) (exx_make (fs := []) T.o_AboveRule (ok_AboveRule_init T) (hr.mono hk) ha (fun C hC ad dx P' R' _ h => ⟨C, ad, dx, n, c, x, y, rfl, hC, h1, h2, h3, fun z => by (rw [hgd] at z; cases z), fun _ => h _ rfl⟩) hg (by decide) he hpl) (fun _ z => z.elim) fun y e => ⟨e, rfl⟩
theorem mkx_turn (T : Txt X.K X.mg) (hr : Room k X.A) (ha : EA X Γ (e :: es) [vl n, vl c, vl x, vl t]) (h1 : n.length ≤ 1000) (h2 : x.length ≤ 1000) (hk : autoParam (5 ≤ k) Tw.aDec) (hg : autoParam (Gl X "TurnRule") Tw.aRfl) (he : autoParam (starEach (e :: es) X.env = (false, eval e X.env) :: starEach es X.env) Tw.aStar) (hpl : autoParam ((backTo pos (starEach es X.env)).any (·.1) = false) Tw.aPl) :
    EXX X Γ (.Call (.Name "TurnRule" p) (e :: es) [] pos) (fun r => r = rv (RuleD.turn n c x t) ∧ (RuleD.turn n c x t).good = true) (fun z => z = NoRule ∧ (RuleD.turn n c x t).good = false) := by
  cases hgd : (RuleD.turn n c x t).good with
  | true => exact exx_imp (R := fun _ => False) (exx_makeV (x := RuleD.turn n c x t) T.o_TurnRule (ok_TurnRule_init T) (hr.mono hk) rfl ha (fun C hC ad dx P' R' h _ => ⟨C, ad, dx, n, c, x, t, rfl, hC, h1, h2, fun _ => h, fun z => by rw [hgd] at z; cases z⟩) hg (by decide) he hpl) (fun r e => ⟨e, rfl⟩) fun _ z => z.elim
  | false => exact exx_imp (P := fun _ => False) (R := fun y => y = NoRule) (exx_make (fs := []) T.o_TurnRule (ok_TurnRule_init T) (hr.mono hk) ha (fun C hC ad dx P' R' _ h => ⟨C, ad, dx, n, c, x, t, rfl, hC, h1, h2, fun z => by (rw [hgd] at z; cases z), fun _ => h _ rfl⟩) hg (by decide) he hpl) (fun _ z => z.elim) fun y e => ⟨e, rfl⟩
theorem ev_good {e : Expr} {r : RuleD} (h : EXX X Γ e (fun q => q = rv r ∧ r.good = true) (fun y => y = NoRule ∧ r.good = false)) (hg : r.good = true) : EV X Γ e r :=
  ev_of_ex (ex_of_exx (exx_imp h (fun _ z => z.1) fun _ z => by rw [hg] at z; cases z.2))
end
noncomputable def partsS (n : Str) : Tw.Spec := fun A P _ => ∃ (r : RuleD), A = [vl r] ∧ r.cls = n ∧ P (rn r.parts)
section
variable {P : Program} {w : World} {K : PySem.W.Frag} {mg : Str → Option Value} {base : Heap}
theorem ok_CellRule_parts (T : Txt K mg) : HasM P w K mg base 1 "CellRule" "parts" ["self"] (partsS "CellRule") := by
  refine HasM.of T.m_CellRule_parts sc_Rule_parts (fun A Q R ⟨r, e, _⟩ => by rw [e]; rfl) fun f cdv A outer s0 H E hr Γ Q R ⟨r, e, hcl, hq⟩ => ?_
  subst e
  cases r <;> first | exact st_retE (en_lst es_nil) hq | exact absurd hcl (of_decide_eq_false rfl)
theorem ok_BesideRule_parts (T : Txt K mg) : HasM P w K mg base 1 "BesideRule" "parts" ["self"] (partsS "BesideRule") := by
  refine HasM.of T.m_BesideRule_parts sc_BesideRule_parts (fun A Q R ⟨r, e, _⟩ => by rw [e]; rfl) fun f cdv A outer s0 H E hr Γ Q R ⟨r, e, hcl, hq⟩ => ?_
  subst e
  cases r with
  | beside n c x y => exact st_retE (en_lst (es_cons (ev_fld T.o_BesideRule T.a_BesideRule_one hcl rfl (ev_var 0)) (es_cons (ev_fld T.o_BesideRule T.a_BesideRule_other hcl rfl (ev_var 0)) es_nil))) hq
  | _ => exact absurd hcl (of_decide_eq_false rfl)
theorem ok_AboveRule_parts (T : Txt K mg) : HasM P w K mg base 1 "AboveRule" "parts" ["self"] (partsS "AboveRule") := by
  refine HasM.of T.m_AboveRule_parts sc_AboveRule_parts (fun A Q R ⟨r, e, _⟩ => by rw [e]; rfl) fun f cdv A outer s0 H E hr Γ Q R ⟨r, e, hcl, hq⟩ => ?_
  subst e
  cases r with
  | above n c x y => exact st_retE (en_lst (es_cons (ev_fld T.o_AboveRule T.a_AboveRule_one hcl rfl (ev_var 0)) (es_cons (ev_fld T.o_AboveRule T.a_AboveRule_other hcl rfl (ev_var 0)) es_nil))) hq
  | _ => exact absurd hcl (of_decide_eq_false rfl)
theorem ok_TurnRule_parts (T : Txt K mg) : HasM P w K mg base 1 "TurnRule" "parts" ["self"] (partsS "TurnRule") := by
  refine HasM.of T.m_TurnRule_parts sc_TurnRule_parts (fun A Q R ⟨r, e, _⟩ => by rw [e]; rfl) fun f cdv A outer s0 H E hr Γ Q R ⟨r, e, hcl, hq⟩ => ?_
  subst e
  cases r with
  | turn n c x t => exact st_retE (en_lst (es_cons (ev_fld T.o_TurnRule T.a_TurnRule_part hcl rfl (ev_var 0)) es_nil)) hq
  | _ => exact absurd hcl (of_decide_eq_false rfl)
theorem RuleD.f_parts (r : RuleD) : r.flds.lookup ("parts" : Str) = none := by cases r <;> exact lk rfl
theorem ok_parts (T : Txt K mg) (r : RuleD) : HasM P w K mg base 1 r.cls "parts" ["self"] (partsS r.cls) := by
  cases r
  · exact ok_CellRule_parts T
  · exact ok_BesideRule_parts T
  · exact ok_AboveRule_parts T
  · exact ok_TurnRule_parts T
end
theorem list_atI {A : Type} {xs : List A} {n : Int} (h : 0 ≤ n) (h2 : n < xs.length) : ∃ x, atI xs n = some x ∧ x ∈ xs := by
  have hlt : n.toNat < xs.length := by omega
  refine ⟨xs[n.toNat], ?_, List.getElem_mem _⟩
  have := atI_nat (xs := xs) (j := n.toNat) (List.getElem?_eq_getElem hlt)
  rwa [show ((n.toNat : Nat) : Int) = n by omega] at this
noncomputable abbrev Pic := List Tx
structure Pk (p : Pic) (r c : Nat) : Prop where
  len : p.length = r
  row : ∀ x ∈ p, x.length = c
  r0 : 0 < r
  c0 : 0 < c
  r6 : r ≤ 6
  c6 : c ≤ 6
theorem Pk.hd {p : Pic} {r c : Nat} (h : Pk p r c) : ∃ x q, p = x :: q ∧ x.length = c := by
  cases p with
  | nil => have := h.len; have := h.r0; simp at *; omega
  | cons x q => exact ⟨x, q, rfl, h.row x (List.mem_cons_self ..)⟩
theorem Pk.head {p : Pic} {r c : Nat} (h : Pk p r c) : atI p 0 = some (p.headD []) ∧ (p.headD []).length = c := by
  obtain ⟨x, q, rfl, e⟩ := h.hd
  exact ⟨atI_nat (j := 0) rfl, e⟩
noncomputable def quarter (p : Pic) : Pic := (List.range (p.headD []).length).map fun j => p.reverse.map fun row => row.getD j 0
noncomputable def mirrored (p : Pic) : Pic := p.map List.reverse
noncomputable def quarters : Nat → Pic → Pic
  | 0, p => p
  | n + 1, p => quarter (quarters n p)
noncomputable def turned (p : Pic) (t : Nat) : Pic := quarters (t % 4) (if 4 ≤ t then mirrored p else p)
theorem Pk.quarter {p : Pic} {r c : Nat} (h : Pk p r c) : Pk (quarter p) c r := by
  have hl := h.head.2
  refine ⟨by unfold Law.quarter; rw [List.length_map, List.length_range, hl], fun x hx => ?_, h.c0, h.r0, h.c6, h.r6⟩
  unfold Law.quarter at hx
  obtain ⟨j, _, rfl⟩ := List.mem_map.mp hx
  rw [List.length_map, List.length_reverse, h.len]
theorem Pk.mirrored {p : Pic} {r c : Nat} (h : Pk p r c) : Pk (mirrored p) r c := by
  refine ⟨by unfold Law.mirrored; rw [List.length_map, h.len], fun x hx => ?_, h.r0, h.c0, h.r6, h.c6⟩
  unfold Law.mirrored at hx
  obtain ⟨y, hy, rfl⟩ := List.mem_map.mp hx
  rw [List.length_reverse, h.row y hy]
theorem Pk.quarters {p : Pic} {r c : Nat} (h : Pk p r c) : ∀ n, Pk (quarters n p) (if n % 2 = 0 then r else c) (if n % 2 = 0 then c else r)
  | 0 => h
  | n + 1 => by
    have ih := (Pk.quarters h n).quarter
    by_cases e : n % 2 = 0
    · rw [if_pos e, if_pos e] at ih
      rw [if_neg (by omega), if_neg (by omega)]
      exact ih
    · rw [if_neg e, if_neg e] at ih
      rw [if_pos (by omega), if_pos (by omega)]
      exact ih
theorem Pk.turned {p : Pic} {r c : Nat} (h : Pk p r c) (t : Nat) : Pk (turned p t) (if t % 2 = 0 then r else c) (if t % 2 = 0 then c else r) := by
  unfold Law.turned
  have e : (t % 4) % 2 = t % 2 := by omega
  split
  · have := h.mirrored.quarters (t % 4)
    rwa [e] at this
  · have := h.quarters (t % 4)
    rwa [e] at this
noncomputable def quarterS : Tw.Spec := fun A P _ => ∃ (p : Pic) (r c : Nat), A = [vl p] ∧ Pk p r c ∧ P (rn (quarter p))
noncomputable def mirroredS : Tw.Spec := fun A P _ => ∃ (p : Pic) (r c : Nat), A = [vl p] ∧ Pk p r c ∧ P (rn (mirrored p))
noncomputable def turnedS : Tw.Spec := fun A P _ => ∃ (p : Pic) (r c : Nat) (t : Int), A = [vl p, vl t] ∧ Pk p r c ∧ 0 ≤ t ∧ P (rn (turned p t.toNat))
theorem sl6 {n : Nat} (h : n ≤ 6) : n ≤ sizeLine := Nat.le_trans h (by decide)
noncomputable def PicOk (p : Pic) : Prop := ∀ x ∈ p, TxOk x
section
variable {P : Program} {w : World} {K : PySem.W.Frag} {mg : Str → Option Value} {base : Heap}
theorem ok_quarter (T : Txt K mg) : Has P w K mg base 1 "quarter" ["picture"] quarterS := by
  refine Has.of T.f_quarter sc_quarter (fun A Q R ⟨p, r, c, e, _⟩ => by rw [e]; rfl) fun f cdv A outer s H E hr Γ Q R ⟨p, r, c, e, hp, hq⟩ => ?_
  subst e
  obtain ⟨h0, h1⟩ := hp.head
  have hc6 := hp.c6
  have hr6 := hp.r6
  -- rows = []
  refine st_setN 1 (en_nil Tx) (fun ad => ?_) sc_quarter.nd
  -- for column in range(len(picture[0])):
  refine st_for (xs := rng 0 ((p.headD []).length : Int).toNat) (fun k Γ => Le Γ [vl p, ls ad ((quarter p).take k), .no, .no]) (src_range T.b_range (ev_lenS T.b_len (ev_ixL (ev_var 0) ev_int h0) (sl6 (by rw [h1]; exact hp.c6))) (by omega) (by rw [h1]; omega)) (tg_name 2) Le.refl
    (fun k x Γ' hk hP => ?_) (fun Γ' hP => ?_) (pgn 2 sc_quarter.nd)
  · obtain ⟨hlt, rfl⟩ := rng_get0 hk
    refine st_le (Le.set hP 2 _) ?_
    have hkc : k < (p.headD []).length := by simpa using hlt
    have hk6 : k < 6 := by omega
    refine st_append 1 (ev_join (ev_str "") (ev_of_en (en_lc (α := Tx) (β := Tx) (own := [("row", 3)]) (f := fun row => [row.getD k 0]) (src_rev T.b_reversed (ev_var 0)) (tg_name 3) (fun _ _ _ _ _ => pgn 3 sc_quarter.nd)
      (fun x hx _ _ _ _ _ => ev_ixS (ev_var 3) (ev_var 2) ?_ ?_) sc_quarter.nd (ok := bk_quarter (by decide +kernel)) (hz := ?_))) ?_) (st_nil ?_) ?_
    · have := hp.row x (by simpa using hx)
      rw [List.getD_eq_getElem?_getD, List.getElem?_eq_getElem (by omega)]
      exact atI_nat (List.getElem?_eq_getElem (by omega))
    · rw [hp.row x (by simpa using hx)]; exact sl6 hp.c6
    · rw [List.length_reverse, hp.len]; exact sl6 hp.r6
    · show _ + _ * 0 ≤ _
      rw [sum_ones, List.length_reverse, hp.len]
      omega
    · have e1 : (quarter p)[k]? = some (p.reverse.map fun row => row.getD k 0) := by
        unfold quarter
        rw [List.getElem?_map, List.getElem?_range hkc]; rfl
      show Le _ _
      rw [take_snoc e1, ← joinOnes]
      exact le_cons (le_cons (le_no (le_no le_nil)))
    · rw [List.length_take]
      exact lt_line (by omega)
  · refine st_le hP (st_retL 1 ?_)
    rw [rng_len, List.take_of_length_le (by unfold quarter; rw [List.length_map, List.length_range]; omega)]
    exact hq
theorem ok_mirrored (T : Txt K mg) : Has P w K mg base 1 "mirrored" ["picture"] mirroredS := by
  refine Has.of T.f_mirrored sc_mirrored (fun A Q R ⟨p, r, c, e, _⟩ => by rw [e]; rfl) fun f cdv A outer s H E hr Γ Q R ⟨p, r, c, e, hp, hq⟩ => ?_
  subst e
  have hc6 := hp.c6
  have hr6 := hp.r6
  refine st_retE (en_lc (α := Tx) (β := Tx) (own := [("row", 1)]) (f := List.reverse) (src_list (ev_var 0)) (tg_name 1) (fun _ _ _ _ _ => pgn 1 sc_mirrored.nd)
    (fun x hx _ _ _ _ _ => ev_joinRev T.b_reversed (ev_str "") (ev_var 1) ?_) sc_mirrored.nd (ok := bk_mirrored (by decide +kernel)) (hz := ?_)) hq
  · rw [hp.row x hx]; omega
  · rw [hp.len]; exact sl6 hr6
theorem ok_turned (T : Txt K mg) : Has P w K mg base 2 "turned" ["picture", "t"] turnedS := by
  refine Has.of T.f_turned sc_turned (fun A Q R ⟨p, r, c, t, e, _⟩ => by rw [e]; rfl) fun f cdv A outer s H E hr Γ Q R ⟨p, r, c, t, e, hp, ht, hq⟩ => ?_
  subst e
  have hc6 := hp.c6
  have hr6 := hp.r6
  -- seen = list(picture)
  refine st_setN 2 (en_list T.b_list (ev_var 0)) (fun a0 => ?_) sc_turned.nd
  -- if t >= MIRROR:
  have go : ∀ (q : Pic) (a1 : Addr), q = (if 4 ≤ t.toNat then mirrored p else p) → Tw.ST (cxOf (L2.CX P w) P w K mg base N_turned "turned" (defScope s_turned) f cdv A outer s H E).nox ((defBody s_turned).drop 2) [vl p, vl t, ls a1 q, .no] (fin Q) := by
    intro q a1 eq
    obtain ⟨r', c', hq'⟩ : ∃ r' c', Pk q r' c' := by
      rw [eq]; split
      · exact ⟨_, _, hp.mirrored⟩
      · exact ⟨_, _, hp⟩
    -- for turn in range(t % MIRROR):
    refine st_for (xs := rng 0 (t % 4).toNat) (fun k Γ => ∃ ad, Le Γ [vl p, vl t, ls ad (quarters k q), .no]) (src_range T.b_range (ev_bin (o_mod (by decide)) (ev_var 1) (ev_gintE T.c_MIRROR)) (by omega) (by omega)) (tg_name 3) ⟨a1, Le.refl⟩
      (fun k x Γ' hk hP => ?_) (fun Γ' hP => ?_) (pgn 3 sc_turned.nd)
    · obtain ⟨ad, hP⟩ := hP
      refine st_le (Le.set hP 3 _) ?_
      refine st_setN 2 (en_lend 2 (en_call (ok_quarter T) (hr.mono (by decide)) (ea_cons (ev_var 2) ea_nil) fun P R h => ⟨_, _, _, rfl, hq'.quarters k, h⟩)) (fun a2 => st_nil ⟨a2, ?_⟩) sc_turned.nd
      exact le_cons (le_cons (le_cons (le_no le_nil)))
    · obtain ⟨ad, hP⟩ := hP
      refine st_le hP (st_retL 2 ?_)
      rw [rng_len]
      unfold turned at hq
      rw [← eq, show t.toNat % 4 = (t % 4).toNat by omega] at hq
      exact hq
  refine st_if (et_cmp o_ge (ev_var 1) (ev_gintE T.c_MIRROR)) (fun h => ?_) (fun h => ?_)
  · refine st_setN 2 (en_lend 2 (en_call (ok_mirrored T) (hr.mono (by decide)) (ea_cons (ev_var 2) ea_nil) fun P R h => ⟨_, _, _, rfl, hp, h⟩)) (fun a1 => st_nil ?_) sc_turned.nd
    refine go _ _ ?_
    rw [if_pos (by have := of_decide_eq_true h; omega)]
  · refine st_nil (go _ _ ?_)
    rw [if_neg (by have := of_decide_eq_false h; omega)]
end
noncomputable def fits (s : Bool) (r c r' c' : Nat) : Bool := if s then decide (r = r') && decide (c + c' ≤ 6) else decide (c = c') && decide (r + r' ≤ 6)
noncomputable def putT (s : Bool) (p q : Pic) : Pic := if s then List.zipWith (· ++ ·) p q else p ++ q
noncomputable def NoFit : Exn := ⟨"NoFit", "", .no⟩
noncomputable def besideS : Tw.Spec := fun A P R => ∃ (p q : Pic) (r c r' c' : Nat), A = [vl p, vl q] ∧ Pk p r c ∧ Pk q r' c' ∧ (fits true r c r' c' = true → P (rn (putT true p q))) ∧ (fits true r c r' c' = false → R NoFit)
noncomputable def aboveS : Tw.Spec := fun A P R => ∃ (p q : Pic) (r c r' c' : Nat), A = [vl p, vl q] ∧ Pk p r c ∧ Pk q r' c' ∧ (fits false r c r' c' = true → P (rn (putT false p q))) ∧ (fits false r c r' c' = false → R NoFit)
theorem zip_map {A B C : Type} (f : A → B → C) : ∀ (xs : List A) (ys : List B), (xs.zip ys).map (fun x => f x.1 x.2) = List.zipWith f xs ys
  | [], _ => by simp
  | _ :: _, [] => by simp
  | x :: xs, y :: ys => by
    rw [List.zip_cons_cons, List.map_cons, zip_map f xs ys, List.zipWith_cons_cons]
section
variable {P : Program} {w : World} {K : PySem.W.Frag} {mg : Str → Option Value} {base : Heap}
theorem ok_beside (T : Txt K mg) : Has P w K mg base 1 "beside" ["one", "other"] besideS := by
  refine Has.ofX T.f_beside sc_beside (fun A Q R ⟨p, q, r, c, r', c', e, _⟩ => by rw [e]; rfl) fun f cdv A outer s H E hr Γ Q R ⟨p, q, r, c, r', c', e, hp, hq, h1, h2⟩ => ?_
  subst e
  obtain ⟨hp0, hp1⟩ := hp.head
  obtain ⟨hq0, hq1⟩ := hq.head
  have hr6 := hp.r6
  have hc6 := hp.c6
  have hc6' := hq.c6
  have hr6' := hq.r6
  refine st_if (et_or (et_cmp o_ne (ev_eq (y := (r : Int)) (ev_len T.b_len (ev_var 0)) (by rw [hp.len])) (ev_eq (y := (r' : Int)) (ev_len T.b_len (ev_var 1)) (by rw [hq.len])))
    fun _ => et_cmp o_gt (ev_bin o_add (ev_eq (y := (c : Int)) (ev_lenS T.b_len (ev_ixL (ev_var 0) ev_int hp0) (sl6 (by omega))) (by rw [hp1])) (ev_eq (y := (c' : Int)) (ev_lenS T.b_len (ev_ixL (ev_var 1) ev_int hq0) (sl6 (by omega))) (by rw [hq1]))) (ev_gintE T.c_MOST)) (fun h => ?_) (fun h => st_nil ?_)
  · refine st_raise0 T.x_NoFit T.p_NoFit (h2 ?_)
    unfold fits
    rw [if_pos rfl]
    simp at h ⊢
    omega
  · have hf : fits true r c r' c' = true := by
      unfold fits
      rw [if_pos rfl]
      simp at h ⊢
      omega
    refine st_retE (en_eq (en_lc (α := Tx × Tx) (β := Tx) (own := [("left", 2), ("right", 3)]) (f := fun x => x.1 ++ x.2) (src_zip T.b_zip (ev_var 0) (ev_var 1)) (tg_pair 2 3 (by decide)) (fun _ _ _ _ _ => pg2 2 3 (pgn 2 sc_beside.nd) (pgn 3 sc_beside.nd))
      (fun x hx _ _ _ _ _ => ev_bin (o_addS ?_) (ev_var 2) (ev_var 3)) sc_beside.nd (ok := bk_beside (by decide +kernel)) (hz := ?_)) (zip_map (· ++ ·) p q)) (h1 hf)
    · have := hp.row _ (List.of_mem_zip hx).1
      have := hq.row _ (List.of_mem_zip hx).2
      exact sl_small (by omega)
    · rw [List.length_zip, hp.len]; exact sl_small (by omega)
theorem ok_above (T : Txt K mg) : Has P w K mg base 1 "above" ["one", "other"] aboveS := by
  refine Has.ofX T.f_above sc_above (fun A Q R ⟨p, q, r, c, r', c', e, _⟩ => by rw [e]; rfl) fun f cdv A outer s H E hr Γ Q R ⟨p, q, r, c, r', c', e, hp, hq, h1, h2⟩ => ?_
  subst e
  obtain ⟨hp0, hp1⟩ := hp.head
  obtain ⟨hq0, hq1⟩ := hq.head
  have hr6 := hp.r6
  have hc6 := hp.c6
  have hc6' := hq.c6
  have hr6' := hq.r6
  refine st_if (et_or (et_cmp o_ne (ev_eq (y := (c : Int)) (ev_lenS T.b_len (ev_ixL (ev_var 0) ev_int hp0) (sl6 (by omega))) (by rw [hp1])) (ev_eq (y := (c' : Int)) (ev_lenS T.b_len (ev_ixL (ev_var 1) ev_int hq0) (sl6 (by omega))) (by rw [hq1])))
    fun _ => et_cmp o_gt (ev_bin o_add (ev_eq (y := (r : Int)) (ev_len T.b_len (ev_var 0)) (by rw [hp.len])) (ev_eq (y := (r' : Int)) (ev_len T.b_len (ev_var 1)) (by rw [hq.len]))) (ev_gintE T.c_MOST)) (fun h => ?_) (fun h => st_nil ?_)
  · refine st_raise0 T.x_NoFit T.p_NoFit (h2 ?_)
    unfold fits
    rw [if_neg (by decide)]
    simp at h ⊢
    omega
  · have hf : fits false r c r' c' = true := by
      unfold fits
      rw [if_neg (by decide)]
      simp at h ⊢
      omega
    exact st_retE (en_addL (ev_var 0) (ev_var 1) (by rw [hp.len, hq.len]; exact sl_small (by omega))) (h1 hf)
end
theorem Pk.put {s : Bool} {p q : Pic} {r c r' c' : Nat} (hp : Pk p r c) (hq : Pk q r' c') (h : fits s r c r' c' = true) : ∃ r2 c2, Pk (putT s p q) r2 c2 := by
  have hr := hp.r6
  have hc := hp.c6
  have hr0 := hp.r0
  have hc0 := hp.c0
  unfold fits at h
  unfold putT
  cases s with
  | true =>
    simp only [if_true, Bool.and_eq_true, decide_eq_true_eq] at h ⊢
    refine ⟨r, c + c', ?_, fun x hx => ?_, hr0, by omega, hr, by omega⟩
    · rw [List.length_zipWith, hp.len, hq.len]; omega
    · rw [← zip_map] at hx
      obtain ⟨y, hy, rfl⟩ := List.mem_map.mp hx
      rw [List.length_append, hp.row _ (List.of_mem_zip hy).1, hq.row _ (List.of_mem_zip hy).2]
  | false =>
    simp only [Bool.false_eq_true, if_false, Bool.and_eq_true, decide_eq_true_eq] at h ⊢
    refine ⟨r + r', c, ?_, fun x hx => ?_, by omega, hc0, by omega, hc⟩
    · rw [List.length_append, hp.len, hq.len]
    · rcases List.mem_append.mp hx with z | z
      · exact hp.row x z
      · rw [hq.row x z]; exact h.1.symm
theorem PicOk.put {s : Bool} {p q : Pic} (hp : PicOk p) (hq : PicOk q) : PicOk (putT s p q) := by
  unfold putT
  cases s with
  | true =>
    simp only [if_true]
    intro x hx
    rw [← zip_map] at hx
    obtain ⟨y, hy, rfl⟩ := List.mem_map.mp hx
    intro c hc
    rcases List.mem_append.mp hc with z | z
    · exact hp _ (List.of_mem_zip hy).1 c z
    · exact hq _ (List.of_mem_zip hy).2 c z
  | false =>
    simp only [Bool.false_eq_true, if_false]
    intro x hx
    rcases List.mem_append.mp hx with z | z
    · exact hp x z
    · exact hq x z
theorem PicOk.mirrored {p : Pic} (h : PicOk p) : PicOk (mirrored p) := fun x hx => by
  obtain ⟨y, hy, rfl⟩ := List.mem_map.mp hx
  exact fun c hc => h y hy c (List.mem_reverse.mp hc)
theorem PicOk.quarter {p : Pic} (h : PicOk p) : PicOk (quarter p) := fun x hx => by
  obtain ⟨j, _, rfl⟩ := List.mem_map.mp hx
  intro c hc
  obtain ⟨row, hr, rfl⟩ := List.mem_map.mp hc
  exact getD_ok (h row (List.mem_reverse.mp hr)) j
theorem PicOk.turned {p : Pic} (h : PicOk p) (t : Nat) : PicOk (turned p t) := by
  have go : ∀ n (q : Pic), PicOk q → PicOk (quarters n q) := fun n q hq => by
    induction n with
    | zero => exact hq
    | succ n ih => exact ih.quarter
  unfold Law.turned
  refine go _ _ ?_
  split
  · exact h.mirrored
  · exact h
noncomputable def PicIn (p : Pic) : Prop := ∃ r c, Pk p r c
noncomputable def fitsP (s : Bool) (p q : Pic) : Bool := fits s p.length (p.headD []).length q.length (q.headD []).length
noncomputable def RuleD.made (r : RuleD) (ps : List Pic) : Option Pic := match r with
  | .cell _ _ s => some [s]
  | .beside .. => if fitsP true (ps.getD 0 []) (ps.getD 1 []) then some (putT true (ps.getD 0 []) (ps.getD 1 [])) else none
  | .above .. => if fitsP false (ps.getD 0 []) (ps.getD 1 []) then some (putT false (ps.getD 0 []) (ps.getD 1 [])) else none
  | .turn _ _ _ t => some (turned (ps.getD 0 []) t.toNat)
noncomputable def RuleD.turnOk : RuleD → Prop
  | .turn _ _ _ t => 0 ≤ t
  | _ => True
noncomputable def madeS (n : Str) : Tw.Spec := fun A P R => ∃ (r : RuleD) (ps : List Pic), A = [vl r, vl ps] ∧ r.cls = n ∧ r.turnOk ∧ ps.length = r.parts.length ∧ (∀ p ∈ ps, PicIn p) ∧ (∀ p, r.made ps = some p → P (rn p)) ∧ (r.made ps = none → R NoFit)
theorem PicIn.fits {p q : Pic} {s : Bool} {r c r' c' : Nat} (hp : Pk p r c) (hq : Pk q r' c') : fitsP s p q = Law.fits s r c r' c' := by
  unfold fitsP
  rw [hp.len, hq.len, hp.head.2, hq.head.2]
theorem two_of {A : Type} {xs : List A} (h : xs.length = 2) : ∃ a b, xs = [a, b] := by
  match xs, h with
  | [a, b], _ => exact ⟨a, b, rfl⟩
theorem one_of {A : Type} {xs : List A} (h : xs.length = 1) : ∃ a, xs = [a] := by
  match xs, h with
  | [a], _ => exact ⟨a, rfl⟩
theorem RuleD.f_made (r : RuleD) : r.flds.lookup ("made" : Str) = none := by cases r <;> exact lk rfl
section
variable {P : Program} {w : World} {K : PySem.W.Frag} {mg : Str → Option Value} {base : Heap}
theorem ok_CellRule_made (T : Txt K mg) : HasM P w K mg base 4 "CellRule" "made" ["self", "pictures"] (madeS "CellRule") := by
  refine HasM.of T.m_CellRule_made sc_CellRule_made (fun A Q R ⟨r, ps, e, _⟩ => by rw [e]; rfl) fun f cdv A outer s0 H E hr Γ Q R ⟨r, ps, e, hcl, ht, hl, hp, h1, h2⟩ => ?_
  subst e
  cases r with
  | cell n c s => exact st_retE (en_lst (es_cons (ev_fld (y := s) T.o_CellRule T.a_CellRule_sign hcl rfl (ev_var 0)) es_nil)) (h1 _ rfl)
  | _ => exact absurd hcl (of_decide_eq_false rfl)
theorem ok_BesideRule_made (T : Txt K mg) : HasM P w K mg base 4 "BesideRule" "made" ["self", "pictures"] (madeS "BesideRule") := by
  refine HasM.of T.m_BesideRule_made sc_BesideRule_made (fun A Q R ⟨r, ps, e, _⟩ => by rw [e]; rfl) fun f cdv A outer s0 H E hr Γ Q R ⟨r, ps, e, hcl, ht, hl, hp, h1, h2⟩ => ?_
  subst e
  cases r with
  | beside n c x y =>
    obtain ⟨p, q, rfl⟩ := two_of hl
    obtain ⟨r1, c1, k1⟩ := hp p (by simp)
    obtain ⟨r2, c2, k2⟩ := hp q (by simp)
    have hf := PicIn.fits (s := true) k1 k2
    refine st_retX (P := fun x => x = rn (putT true p q) ∧ fitsP true p q = true) (R := fun y => y = NoFit ∧ fitsP true p q = false) (exx_call (ok_beside T) (hr.mono (by decide)) (ea_cons (ev_ixL (xs := [p, q]) (ev_var 1) ev_int (atI_nat (j := 0) rfl)) (ea_cons (ev_ixL (xs := [p, q]) (ev_var 1) ev_int (atI_nat (j := 1) rfl)) ea_nil)) fun P' R' g1 g2 => ⟨p, q, _, _, _, _, rfl, k1, k2, fun z => g1 _ ⟨rfl, by rw [hf]; exact z⟩, fun z => g2 _ ⟨rfl, by rw [hf]; exact z⟩⟩) (fun x ⟨e, z⟩ => e ▸ h1 _ ?_) (fun y ⟨e, z⟩ => e ▸ h2 ?_)
    · show (if fitsP true p q then some (putT true p q) else none) = _
      rw [if_pos z]
    · show (if fitsP true p q then some (putT true p q) else none) = _
      rw [if_neg (by rw [z]; decide)]
  | _ => exact absurd hcl (of_decide_eq_false rfl)
theorem ok_AboveRule_made (T : Txt K mg) : HasM P w K mg base 4 "AboveRule" "made" ["self", "pictures"] (madeS "AboveRule") := by
  refine HasM.of T.m_AboveRule_made sc_AboveRule_made (fun A Q R ⟨r, ps, e, _⟩ => by rw [e]; rfl) fun f cdv A outer s0 H E hr Γ Q R ⟨r, ps, e, hcl, ht, hl, hp, h1, h2⟩ => ?_
  subst e
  cases r with
  | above n c x y =>
    obtain ⟨p, q, rfl⟩ := two_of hl
    obtain ⟨r1, c1, k1⟩ := hp p (by simp)
    obtain ⟨r2, c2, k2⟩ := hp q (by simp)
    have hf := PicIn.fits (s := false) k1 k2
    refine st_retX (P := fun x => x = rn (putT false p q) ∧ fitsP false p q = true) (R := fun y => y = NoFit ∧ fitsP false p q = false) (exx_call (ok_above T) (hr.mono (by decide)) (ea_cons (ev_ixL (xs := [p, q]) (ev_var 1) ev_int (atI_nat (j := 0) rfl)) (ea_cons (ev_ixL (xs := [p, q]) (ev_var 1) ev_int (atI_nat (j := 1) rfl)) ea_nil)) fun P' R' g1 g2 => ⟨p, q, _, _, _, _, rfl, k1, k2, fun z => g1 _ ⟨rfl, by rw [hf]; exact z⟩, fun z => g2 _ ⟨rfl, by rw [hf]; exact z⟩⟩) (fun x ⟨e, z⟩ => e ▸ h1 _ ?_) (fun y ⟨e, z⟩ => e ▸ h2 ?_)
    · show (if fitsP false p q then some (putT false p q) else none) = _
      rw [if_pos z]
    · show (if fitsP false p q then some (putT false p q) else none) = _
      rw [if_neg (by rw [z]; decide)]
  | _ => exact absurd hcl (of_decide_eq_false rfl)
theorem ok_TurnRule_made (T : Txt K mg) : HasM P w K mg base 4 "TurnRule" "made" ["self", "pictures"] (madeS "TurnRule") := by
  refine HasM.of T.m_TurnRule_made sc_TurnRule_made (fun A Q R ⟨r, ps, e, _⟩ => by rw [e]; rfl) fun f cdv A outer s0 H E hr Γ Q R ⟨r, ps, e, hcl, ht, hl, hp, h1, h2⟩ => ?_
  subst e
  cases r with
  | turn n c x t =>
    obtain ⟨p, rfl⟩ := one_of hl
    obtain ⟨r1, c1, k1⟩ := hp p (by simp)
    exact st_retE (en_call (ok_turned T) (hr.mono (by decide)) (ea_cons (ev_ixL (xs := [p]) (ev_var 1) ev_int (atI_nat (j := 0) rfl)) (ea_cons (ev_fld (y := t) T.o_TurnRule T.a_TurnRule_turning hcl rfl (ev_var 0)) ea_nil)) fun P R h => ⟨p, _, _, t, rfl, k1, ht, h⟩) (h1 _ rfl)
  | _ => exact absurd hcl (of_decide_eq_false rfl)
theorem ok_made (T : Txt K mg) (r : RuleD) : HasM P w K mg base 4 r.cls "made" ["self", "pictures"] (madeS r.cls) := by
  cases r
  · exact ok_CellRule_made T
  · exact ok_BesideRule_made T
  · exact ok_AboveRule_made T
  · exact ok_TurnRule_made T
end
structure GramD where
  signs : Tx
  start : Tx
  rules : List RuleD
  names : List Tx
noncomputable def GramD.flds (g : GramD) : List (Str × Slot) := [("signs", vl g.signs), ("start", vl g.start), ("kept_rules", vl g.rules), ("kept_names", vl g.names)]
noncomputable instance : Inst GramD := ⟨fun _ => "Grammar", GramD.flds⟩
noncomputable def signsOk (x : Tx) : Bool := (decide (1 ≤ x.length) && decide (x.length ≤ 4)) && (decide x.Nodup && x.all fun c => decide (c ∈ smallTx))
theorem signsOk_len {x : Tx} (h : signsOk x = true) : 1 ≤ x.length ∧ x.length ≤ 4 := by
  unfold signsOk at h
  simp only [Bool.and_eq_true, decide_eq_true_eq] at h
  exact h.1
noncomputable def addNew (met : List Tx) (n : Tx) : List Tx := if n ∈ met then met else met ++ [n]
noncomputable def metR (met : List Tx) (r : RuleD) : List Tx := (r.name :: r.parts).foldl addNew met
noncomputable def metL (start : Tx) (rs : List RuleD) : List Tx := rs.foldl metR [start]
theorem addNew_len (met : List Tx) (n : Tx) : (addNew met n).length ≤ met.length + 1 := by
  unfold addNew
  split
  · omega
  · rw [List.length_append]; exact Nat.le_refl _
theorem addAll_len : ∀ (ns met : List Tx), (ns.foldl addNew met).length ≤ met.length + ns.length
  | [], met => Nat.le_refl _
  | n :: ns, met => by
    have h1 := addAll_len ns (addNew met n)
    have h2 := addNew_len met n
    rw [List.foldl_cons, List.length_cons]
    omega
theorem RuleD.parts_len (r : RuleD) : r.parts.length ≤ 2 := by cases r <;> simp [RuleD.parts]
theorem metR_len (met : List Tx) (r : RuleD) : (metR met r).length ≤ met.length + 3 := by
  have h := addAll_len (r.name :: r.parts) met
  have := r.parts_len
  rw [List.length_cons] at h
  unfold metR
  omega
theorem metAll_len : ∀ (rs : List RuleD) (met : List Tx), (rs.foldl metR met).length ≤ met.length + 3 * rs.length
  | [], met => by simp
  | r :: rs, met => by
    have h1 := metAll_len rs (metR met r)
    have h2 := metR_len met r
    rw [List.foldl_cons, List.length_cons]
    omega
theorem metL_len (start : Tx) (rs : List RuleD) : (metL start rs).length ≤ 1 + 3 * rs.length := metAll_len rs [start]
theorem metL_take {start : Tx} {rs : List RuleD} {k : Nat} {r : RuleD} (h : rs[k]? = some r) : metL start (rs.take (k + 1)) = metR (metL start (rs.take k)) r := by
  unfold metL
  rw [List.take_add_one, h, List.foldl_append]
  rfl
theorem fold_take {ns met : List Tx} {k : Nat} {n : Tx} (h : ns[k]? = some n) : (ns.take (k + 1)).foldl addNew met = addNew ((ns.take k).foldl addNew met) n := by
  rw [List.take_add_one, h, List.foldl_append]
  rfl
theorem addNew_mem {met : List Tx} {n x : Tx} : x ∈ addNew met n ↔ x ∈ met ∨ x = n := by
  unfold addNew
  split
  · rename_i h
    exact ⟨.inl, fun z => z.elim id fun e => e ▸ h⟩
  · rw [List.mem_append, List.mem_singleton]
theorem addAll_mem {x : Tx} : ∀ {ns met : List Tx}, x ∈ ns.foldl addNew met ↔ x ∈ met ∨ x ∈ ns
  | [], met => by simp
  | n :: ns, met => by
    rw [List.foldl_cons, addAll_mem, addNew_mem, List.mem_cons]
    exact ⟨fun h => h.elim (fun h => h.elim .inl fun e => .inr (.inl e)) fun h => .inr (.inr h), fun h => h.elim (fun h => .inl (.inl h)) fun h => h.elim (fun e => .inl (.inr e)) .inr⟩
theorem metAll_mem {x : Tx} : ∀ {rs : List RuleD} {met : List Tx}, x ∈ rs.foldl metR met ↔ x ∈ met ∨ ∃ r ∈ rs, x ∈ r.name :: r.parts
  | [], met => by simp
  | r :: rs, met => by
    rw [List.foldl_cons, metAll_mem]
    unfold metR
    rw [addAll_mem]
    constructor
    · rintro ((h | h) | ⟨q, hq, h⟩)
      · exact .inl h
      · exact .inr ⟨r, List.mem_cons_self .., h⟩
      · exact .inr ⟨q, List.mem_cons_of_mem _ hq, h⟩
    · rintro (h | ⟨q, hq, h⟩)
      · exact .inl (.inl h)
      · rcases List.mem_cons.mp hq with rfl | hq
        · exact .inl (.inr h)
        · exact .inr ⟨q, hq, h⟩
noncomputable def RuleD.signIn (signs : Tx) : RuleD → Bool
  | .cell _ _ s => decide (s.headD 0 ∈ signs)
  | _ => true
noncomputable def badSign (signs : Tx) : Nat → List RuleD → Option Nat
  | _, [] => none
  | k, r :: rs => if r.signIn signs then badSign signs (k + 1) rs else some k
noncomputable def whyRules (signs : Tx) (rs : List RuleD) : Option Why := if 24 < rs.length then some ⟨tx "rules", [(rs.length : Int)]⟩ else (badSign signs 0 rs).map fun (k : Nat) => ⟨tx "sign", [(k : Int)]⟩
noncomputable def whyG (signs start : Tx) (rs : List RuleD) : Option Why :=
  if signsOk signs = false then some ⟨tx "signs", []⟩ else
  if isName start = false then some ⟨tx "start", []⟩ else
  match whyRules signs rs with
  | some y => some y
  | none => if 8 < (metL start rs).length then some ⟨tx "names", [((metL start rs).length : Int)]⟩ else none
noncomputable def NoGram (y : Why) : Exn := ⟨"NoGrammar", "why", vl y⟩
noncomputable def NoNameX : Exn := ⟨"NoName", "", .no⟩
noncomputable def mkG (signs start : Tx) (rs : List RuleD) : GramD := ⟨signs, start, rs, metL start rs⟩
noncomputable def numbersL (n : Tx) (rs : List RuleD) : List Int := ((enumL rs).filter fun x => decide (x.2.name = n)).map (·.1)
structure GramD.Ok (g : GramD) : Prop where
  sg : signsOk g.signs = true
  st : isName g.start = true
  rs : ∀ r ∈ g.rules, r.good = true
  many : g.rules.length ≤ 24
  nm : g.names = metL g.start g.rules
  n8 : g.names.length ≤ 8
theorem mkG_ok {signs start : Tx} {rs : List RuleD} (hg : ∀ r ∈ rs, r.good = true) (h : whyG signs start rs = none) : (mkG signs start rs).Ok := by
  unfold whyG at h
  split at h
  · cases h
  split at h
  · cases h
  rename_i h1 h2
  cases hw : whyRules signs rs with
  | some y => rw [hw] at h; cases h
  | none =>
    rw [hw] at h
    have h : (if 8 < (metL start rs).length then some (⟨tx "names", [((metL start rs).length : Int)]⟩ : Why) else none) = none := h
    split at h
    · cases h
    rename_i h3
    unfold whyRules at hw
    split at hw
    · cases hw
    rename_i h4
    exact ⟨(by cases q : signsOk signs with
      | true => exact q
      | false => exact absurd q h1), (by cases q : isName start with
      | true => exact q
      | false => exact absurd q h2), hg, by show rs.length ≤ 24; omega, rfl, by show (metL start rs).length ≤ 8; omega⟩
noncomputable def signsS : Tw.Spec := fun A P _ => ∃ (x : Tx), A = [vl x] ∧ x.length ≤ 1000 ∧ P (rv (signsOk x))
noncomputable def metS : Tw.Spec := fun A P _ => ∃ (start : Tx) (rs : List RuleD), A = [vl start, vl rs] ∧ rs.length ≤ 100 ∧ P (rn (metL start rs))
noncomputable def askedRS : Tw.Spec := fun A P R => ∃ (signs : Tx) (rs : List RuleD), A = [vl signs, vl rs] ∧ (∀ r ∈ rs, r.good = true) ∧ (whyRules signs rs = none → P (rv ())) ∧ (∀ y, whyRules signs rs = some y → R (NoGram y))
noncomputable def gramS (K : PySem.W.Frag) : Tw.Spec := fun A P R => ∃ (C a dx : Addr) (signs start : Tx) (rs : List RuleD), A = [.own (ownI C a dx []), vl signs, vl start, vl rs] ∧ PySem.W.nsIn K mainGlobals "Grammar" = some (some (.ref C)) ∧ signs.length ≤ 1000 ∧ start.length ≤ 1000 ∧ rs.length ≤ 1000 ∧ (∀ r ∈ rs, r.good = true) ∧
  (whyG signs start rs = none → P (.chg repUnit () [ownI C a dx (mkG signs start rs).flds])) ∧ (∀ y, whyG signs start rs = some y → R (NoGram y))
section
variable {P : Program} {w : World} {K : PySem.W.Frag} {mg : Str → Option Value} {base : Heap}
theorem ok_are_signs (T : Txt K mg) : Has P w K mg base 1 "are_signs" ["text"] signsS := by
  refine Has.of T.f_are_signs sc_are_signs (fun A Q R ⟨x, e, _⟩ => by rw [e]; rfl) fun f cdv A outer s0 H E hr Γ Q R ⟨x, e, hl, hq⟩ => ?_
  subst e
  refine st_if (et_or3 (et_cmp o_lt (ev_lenS T.b_len (ev_var 0) (sl_small (by omega))) ev_int) (fun _ => et_cmp o_gt (ev_lenS T.b_len (ev_var 0) (sl_small (by omega))) (ev_gintE T.c_MOST_SIGNS)) (fun _ _ => et_cmp o_ne (ev_lenSet T.b_len T.b_set (ev_var 0) (by omega)) (ev_lenS T.b_len (ev_var 0) (sl_small (by omega))))) (fun h => ?_) (fun h => st_nil ?_)
  · have hb : signsOk x = false := by
      cases hs : signsOk x with
      | false => rfl
      | true =>
        unfold signsOk at hs
        simp only [Bool.or_eq_true, decide_eq_true_eq, Bool.and_eq_true, Bool.not_eq_true', decide_eq_false_iff_not] at h hs
        have := (unlike_nodup x).mpr hs.2.1
        omega
    rw [hb] at hq
    exact st_retV ev_bl hq
  · simp only [Bool.or_eq_false_iff, decide_eq_false_iff_not, Bool.not_eq_false', decide_eq_true_eq] at h
    have hu : x.Nodup := (unlike_nodup x).mp (by omega)
    refine st_retV (ev_eq (y := signsOk x) (ev_all T.b_all (ev_of_en (en_lc (α := Tx) (β := Bool) (own := [("sign", 1)]) (f := fun y => decide (y.headD 0 ∈ smallTx)) (src_str (ev_var 0)) (tg_name 1) (fun _ _ _ _ _ => pgn 1 sc_are_signs.nd)
      (fun y hy _ _ _ _ _ => ?_) sc_are_signs.nd (ok := bk_are_signs (by decide +kernel)) (hz := by rw [List.length_map]; exact sl_small (by omega))))) ?_) hq
    · obtain ⟨c, _, rfl⟩ := List.mem_map.mp hy
      exact ev_cmp o_inS (ev_var 1) (ev_gstrE T.c_SMALL)
    · unfold signsOk
      rw [List.map_map, List.all_map, decide_eq_true (by omega : 1 ≤ x.length), decide_eq_true (by omega : x.length ≤ 4), decide_eq_true hu, Bool.true_and, Bool.true_and, Bool.true_and]
      rfl
theorem ok_names_met (T : Txt K mg) : Has P w K mg base 2 "names_met" ["start", "rules"] metS := by
  refine Has.of T.f_names_met sc_names_met (fun A Q R ⟨x, rs, e, _⟩ => by rw [e]; rfl) fun f cdv A outer s0 H E hr Γ Q R ⟨st0, rs, e, hl, hq⟩ => ?_
  subst e
  refine st_setN 2 (en_lst (es_cons (ev_var 0) es_nil)) (fun ad => ?_) sc_names_met.nd
  refine st_for (fun k Γ => Le Γ [vl st0, vl rs, .lst repTx ad (metL st0 (rs.take k)), .no, .no]) (src_list (ev_var 1)) (tg_name 3) Le.refl (fun k r Γ' hk hP => ?_) (fun Γ' hP => ?_) (pgn 3 sc_names_met.nd)
  · have hlen : (metL st0 (rs.take k)).length ≤ 301 := by
      have := metL_len st0 (rs.take k)
      rw [List.length_take] at this
      omega
    rw [metL_take hk]
    refine st_le (Le.set hP 3 _) ?_
    generalize metL st0 (rs.take k) = met at hlen
    refine st_for (fun m Γ => Le Γ [vl st0, vl rs, .lst repTx ad (((r.name :: r.parts).take m).foldl addNew met), vl r, .no]) (src_list (xs := r.name :: r.parts) (ev_of_en (en_addL (xs := [r.name]) (ys := r.parts) (ev_of_en (en_lst (es_cons (ev_fld (o_cls T r) (a_name T r) rfl (RuleD.f_name _) (ev_var 3)) es_nil))) (ev_of_en (en_meth0 (o_cls T r) (ok_parts T r) (hr.mono (by decide)) rfl (RuleD.f_parts _) (ev_var 3) fun P' R' h => ⟨_, rfl, rfl, h⟩)) (sl_small (by have := r.parts_len; simp only [List.length_cons, List.length_nil]; omega))))) (tg_name 4) Le.refl (fun m n Γ2 hm hP2 => ?_) (fun Γ2 hP2 => ?_) (pgn 4 sc_names_met.nd)
    · rw [fold_take hm]
      have hl2 : (((r.name :: r.parts).take m).foldl addNew met).length ≤ 304 := by
        have h1 := addAll_len ((r.name :: r.parts).take m) met
        have h2 := r.parts_len
        rw [List.length_take, List.length_cons] at h1
        omega
      refine st_le (Le.set hP2 4 _) ?_
      generalize ((r.name :: r.parts).take m).foldl addNew met = met2 at hl2
      refine st_if (et_lendO 2 frozL (et_cmp o_notInLS (ev_var 4) (ev_var 2))) (fun h => ?_) (fun h => st_nil (st_nil ?_))
      · have h' : n ∉ met2 := by simpa using h
        refine st_append 2 (ad := ad) (xs := met2) (x := n) (ev_var 4) (st_nil (st_nil ?_)) (lt_line (by omega))
        show Le _ [vl st0, vl rs, .lst repTx ad (addNew met2 n), vl r, .no]
        rw [show addNew met2 n = met2 ++ [n] from if_neg h']
        exact le_cons (le_cons (le_cons (le_cons (le_no le_nil))))
      · have h' : n ∈ met2 := by simpa using h
        show Le _ [vl st0, vl rs, .lst repTx ad (addNew met2 n), vl r, .no]
        rw [show addNew met2 n = met2 from if_pos h']
        exact le_cons (le_cons (le_cons (le_cons (le_no le_nil))))
    · rw [List.take_length] at hP2
      exact st_nil (Le.trans hP2 (le_cons (le_cons (le_cons (le_no (le_no le_nil))))))
  · rw [List.take_length] at hP
    exact st_le hP (st_retL 2 hq)
theorem badSign_drop {signs : Tx} {rs : List RuleD} {k : Nat} {r : RuleD} (h : rs[k]? = some r) : badSign signs k (rs.drop k) = if r.signIn signs then badSign signs (k + 1) (rs.drop (k + 1)) else some k := by
  obtain ⟨hk, rfl⟩ := List.getElem?_eq_some_iff.mp h
  rw [List.drop_eq_getElem_cons hk]
  rfl
theorem ok_asked_rules (T : Txt K mg) : Has P w K mg base 4 "asked_rules" ["signs", "rules"] askedRS := by
  refine Has.ofX T.f_asked_rules sc_asked_rules (fun A Q R ⟨x, rs, e, _⟩ => by rw [e]; rfl) fun f cdv A outer s0 H E hr Γ Q R ⟨signs, rs, e, hg, h1, h2⟩ => ?_
  subst e
  refine st_if (et_cmp o_gt (ev_len T.b_len (ev_var 1)) (ev_gintE T.c_MOST_RULES)) (fun h => ?_) (fun h => st_nil ?_)
  · refine st_raise1 T.x_NoGrammar (init_NoGrammar T) (hr.mono (by decide)) (ev_why (ev_str "rules") (es_cons (ev_len T.b_len (ev_var 1)) es_nil)) (h2 _ ?_)
    unfold whyRules
    rw [if_pos (by have := of_decide_eq_true h; omega)]
  have h24 : rs.length ≤ 24 := by have := of_decide_eq_false h; omega
  have ew : whyRules signs rs = (badSign signs 0 rs).map fun (k : Nat) => ⟨tx "sign", [(k : Int)]⟩ := by
    unfold whyRules
    exact if_neg (show ¬ 24 < rs.length by omega)
  rw [ew] at h1 h2
  refine st_for (fun k Γ => badSign signs k (rs.drop k) = badSign signs 0 rs ∧ Le Γ [vl signs, vl rs, .no, .no]) (src_enum T.b_enumerate (ev_var 1)) (tg_pair 2 3 (by decide)) ⟨rfl, Le.refl⟩ (fun k x Γ' hk hP => ?_) (fun Γ' hP => ?_) (pg2 2 3 (pgn 2 sc_asked_rules.nd) (pgn 3 sc_asked_rules.nd))
  · obtain ⟨n, r⟩ := x
    obtain ⟨hn, hr'⟩ := enumL_get hk
    subst hn
    obtain ⟨hb, hP⟩ := hP
    rw [badSign_drop hr'] at hb
    have hgr := hg r (List.mem_of_getElem? hr')
    refine st_le (Le.set (Le.set hP 2 _) 3 _) ?_
    have fin : Le (((([vl signs, vl rs, .no, .no] : List Tw.Slot).set 2 (vl (k : Int))).set 3 (vl r))) [vl signs, vl rs, .no, .no] := le_cons (le_cons (le_no (le_no le_nil)))
    refine st_if (k := !r.signIn signs) ?_ (fun h => ?_) (fun h => st_nil (st_nil ⟨?_, fin⟩))
    · cases r with
      | cell n c s =>
        obtain ⟨d, rfl⟩ : ∃ d, s = [d] := by
          have hs := signOk_of (Bool.and_eq_true .. ▸ hgr : signOk s = true ∧ _).1
          match s, hs with
          | [d], _ => exact ⟨d, rfl⟩
        exact et_eq (et_and (et_val (ev_isiI T.b_isinstance T.o_CellRule T.o_CellRule T.u_CellRule_CellRule rfl (ev_var 3))) fun _ => et_cmp (o_notInS (c := d)) (ev_fld (x := RuleD.cell n c [d]) (y := ([d] : Tx)) T.o_CellRule T.a_CellRule_sign rfl rfl (ev_var 3)) (ev_var 0)) rfl
      | beside n c a b => exact et_eq (et_and (m := false) (et_val (ev_isiI T.b_isinstance T.o_BesideRule T.o_CellRule T.u_BesideRule_CellRule rfl (ev_var 3))) fun h => absurd h (by decide)) rfl
      | above n c a b => exact et_eq (et_and (m := false) (et_val (ev_isiI T.b_isinstance T.o_AboveRule T.o_CellRule T.u_AboveRule_CellRule rfl (ev_var 3))) fun h => absurd h (by decide)) rfl
      | turn n c a t => exact et_eq (et_and (m := false) (et_val (ev_isiI T.b_isinstance T.o_TurnRule T.o_CellRule T.u_TurnRule_CellRule rfl (ev_var 3))) fun h => absurd h (by decide)) rfl
    · have h' : r.signIn signs = false := by simpa using h
      rw [h', if_neg (by decide)] at hb
      exact st_raise1 T.x_NoGrammar (init_NoGrammar T) (hr.mono (by decide)) (ev_why (ev_str "sign") (es_cons (ev_var 2) es_nil)) (h2 _ (by rw [← hb]; rfl))
    · have h' : r.signIn signs = true := by simpa using h
      rw [h', if_pos rfl] at hb
      exact hb
  · obtain ⟨hb, hP⟩ := hP
    rw [enumL_len, List.drop_length] at hb
    exact st_le hP (st_nil (h1 (by rw [← hb]; rfl)))
end
noncomputable def gOneS (α : Type) [i : Rep α] (f : GramD → α) : Tw.Spec := fun A P _ => ∃ (g : GramD), A = [vl g] ∧ P (rv (f g))
noncomputable def gRuleS : Tw.Spec := fun A P _ => ∃ (g : GramD) (k : Int) (r : RuleD), A = [vl g, vl k] ∧ atI g.rules k = some r ∧ P (rv r)
noncomputable def gNumS : Tw.Spec := fun A P R => ∃ (g : GramD) (n : Tx), A = [vl g, vl n] ∧ g.rules.length ≤ 100 ∧ (n ∈ g.names → P (rn (numbersL n g.rules))) ∧ (n ∉ g.names → R NoNameX)
section
variable {P : Program} {w : World} {K : PySem.W.Frag} {mg : Str → Option Value} {base : Heap}
theorem ok_Grammar_init (T : Txt K mg) : HasM P w K mg base 6 "Grammar" "__init__" ["self", "signs", "start", "rules"] (gramS K) := by
  refine HasM.ofI T.m_Grammar_init sc_Grammar_init (fun A Q R ⟨C, a, dx, signs, st0, rs, e, _⟩ => by rw [e]; rfl) fun f cdv A outer s0 H E hr Γ Q R ⟨C, a, dx, signs, st0, rs, e, hC, l1, l2, l3, hg, h1, h2⟩ => ⟨ownI C a dx [], ?_⟩
  subst e
  have hc := OC.cl T.o_Grammar hC
  refine st_if (et_not (et_val (ev_call (x := signsOk signs) (ok_are_signs T) (hr.mono (by decide)) (ea_cons (ev_var 1) ea_nil) fun P R h => ⟨signs, rfl, l1, h⟩))) (fun h => ?_) (fun h => st_nil ?_)
  · have h' : signsOk signs = false := by simpa using h
    exact st_raise1 T.x_NoGrammar (init_NoGrammar T) (hr.mono (by decide)) (ev_why (ev_str "signs") es_nil) (h2 _ (if_pos h'))
  have g1 : signsOk signs = true := by simpa using h
  refine st_if (et_not (et_val (ev_call (x := isName st0) (ok_is_name T) (hr.mono (by decide)) (ea_cons (ev_var 2) ea_nil) fun P R h => ⟨st0, rfl, l2, h⟩))) (fun h => ?_) (fun h => st_nil ?_)
  · have h' : isName st0 = false := by simpa using h
    refine st_raise1 T.x_NoGrammar (init_NoGrammar T) (hr.mono (by decide)) (ev_why (ev_str "start") es_nil) (h2 _ ?_)
    unfold whyG
    rw [if_neg (by rw [g1]; decide), if_pos h']
  have g2 : isName st0 = true := by simpa using h
  have eW : whyG signs st0 rs = (match whyRules signs rs with
    | some y => some y
    | none => if 8 < (metL st0 rs).length then some (⟨tx "names", [((metL st0 rs).length : Int)]⟩ : Why) else none) := by
    unfold whyG
    rw [if_neg (by rw [g1]; decide), if_neg (by rw [g2]; decide)]
  rw [eW] at h1 h2
  cases hw : whyRules signs rs with
  | some y =>
    rw [hw] at h2
    exact st_dropR (R := fun x => x = NoGram y) (exx_call (ok_asked_rules T) (hr.mono (by decide)) (ea_cons (ev_var 1) (ea_cons (ev_var 3) ea_nil)) fun P' R' _ h => ⟨signs, rs, rfl, hg, fun z => (by rw [hw] at z; cases z), fun y' hy => (by rw [hw] at hy; cases hy; exact h _ rfl)⟩) (fun x e => e ▸ h2 y rfl)
  | none =>
    rw [hw] at h1 h2
    have h24 : rs.length ≤ 24 := by
      unfold whyRules at hw
      split at hw
      · cases hw
      · omega
    refine st_drop (P := fun r => r = rv ()) (ex_call (ok_asked_rules T) (hr.mono (by decide)) (ea_cons (ev_var 1) (ea_cons (ev_var 3) ea_nil)) fun P' R' h => ⟨signs, rs, rfl, hg, fun _ => h _ rfl, fun y hy => by rw [hw] at hy; cases hy⟩) ?_
    refine st_setN 4 (en_call (ok_names_met T) (hr.mono (by decide)) (ea_cons (ev_var 2) (ea_cons (ev_var 3) ea_nil)) fun P R h => ⟨st0, rs, rfl, by omega, h⟩) (fun ad => ?_) sc_Grammar_init.nd
    refine st_freeze 4 frozL ?_
    refine st_if (et_cmp o_gt (ev_len T.b_len (ev_var 4)) (ev_gintE T.c_MOST_NAMES)) (fun h => ?_) (fun h => st_nil ?_)
    · have h' : 8 < (metL st0 rs).length := by have := of_decide_eq_true h; omega
      exact st_raise1 T.x_NoGrammar (init_NoGrammar T) (hr.mono (by decide)) (ev_why (ev_str "names") (es_cons (ev_len T.b_len (ev_var 4)) es_nil)) (h2 _ (if_pos h'))
    have h' : ¬ 8 < (metL st0 rs).length := by have := of_decide_eq_false h; omega
    refine st_setF 0 (fs := []) (ev_var 1) ?_ hc (T.a_Grammar_signs C hC) rfl
    refine st_setF 0 (fs := [("signs", vl signs)]) (ev_var 2) ?_ hc (T.a_Grammar_start C hC) (lk rfl)
    refine st_setF 0 (fs := [("signs", vl signs), ("start", vl st0)]) (ev_of_en (en_list T.b_list (ev_var 3))) ?_ hc (T.a_Grammar_kept_rules C hC) (lk rfl)
    exact st_setF 0 (fs := [("signs", vl signs), ("start", vl st0), ("kept_rules", vl rs)]) (ev_var 4) (st_nil ⟨_, rfl, rfl, h1 (if_neg h')⟩) hc (T.a_Grammar_kept_names C hC) (lk rfl)
theorem ok_Grammar_rule (T : Txt K mg) : HasM P w K mg base 1 "Grammar" "rule" ["self", "k"] gRuleS := by
  refine HasM.of T.m_Grammar_rule sc_Grammar_rule (fun A Q R ⟨g, k, r, e, _⟩ => by rw [e]; rfl) fun f cdv A outer s0 H E hr Γ Q R ⟨g, k, r, e, hk, hq⟩ => ?_
  subst e
  exact st_retV (ev_ixL (xs := g.rules) (ev_fld (x := g) (y := g.rules) T.o_Grammar T.a_Grammar_kept_rules rfl rfl (ev_var 0)) (ev_var 1) hk) hq
theorem ok_Grammar_many (T : Txt K mg) : HasM P w K mg base 1 "Grammar" "many" ["self"] (gOneS Int fun g => (g.rules.length : Int)) := by
  refine HasM.of T.m_Grammar_many sc_Grammar_many (fun A Q R ⟨g, e, _⟩ => by rw [e]; rfl) fun f cdv A outer s0 H E hr Γ Q R ⟨g, e, hq⟩ => ?_
  subst e
  exact st_retV (ev_len T.b_len (ev_fld (x := g) (y := g.rules) T.o_Grammar T.a_Grammar_kept_rules rfl rfl (ev_var 0))) hq
theorem ok_Grammar_numbers_of (T : Txt K mg) : HasM P w K mg base 1 "Grammar" "numbers_of" ["self", "name"] gNumS := by
  refine HasM.of T.m_Grammar_numbers_of sc_Grammar_numbers_of (fun A Q R ⟨g, n, e, _⟩ => by rw [e]; rfl) fun f cdv A outer s0 H E hr Γ Q R ⟨g, n, e, hl, h1, h2⟩ => ?_
  subst e
  refine st_if (et_cmp o_notInLS (ev_var 1) (ev_fld (x := g) (y := g.names) T.o_Grammar T.a_Grammar_kept_names rfl rfl (ev_var 0))) (fun h => ?_) (fun h => st_nil ?_)
  · exact st_raise0 T.x_NoName T.p_NoName (h2 (by simpa using h))
  · refine st_retE (en_lcIf (α := Int × RuleD) (β := Int) (own := [("k", 2), ("rule", 3)]) (f := fun x => x.1) (q := fun x => decide (x.2.name = n)) (src_enum (xs := g.rules) T.b_enumerate (ev_fld (x := g) (y := g.rules) T.o_Grammar T.a_Grammar_kept_rules rfl rfl (ev_var 0))) (tg_pair 2 3 (by decide)) (fun _ _ _ _ _ => pg2 2 3 (pgn 2 sc_Grammar_numbers_of.nd) (pgn 3 sc_Grammar_numbers_of.nd))
      (fun x hx _ _ _ _ _ => et_cmp o_eqS (ev_fld (x := x.2) (y := x.2.name) (o_cls T _) (a_name T _) rfl (RuleD.f_name _) (ev_var 3)) (ev_var 1)) (fun x hx _ _ _ _ _ _ => ev_var 2) sc_Grammar_numbers_of.nd (ok := bk_Grammar_numbers_of (by decide +kernel)) (hz := by rw [enumL_len]; exact sl_small (by omega))) (h1 (by simpa using h))
end
structure GramD.Made (g : GramD) : Prop where
  rs : ∀ r ∈ g.rules, r.good = true
  why : whyG g.signs g.start g.rules = none
  eq : g = mkG g.signs g.start g.rules
theorem GramD.Made.ok {g : GramD} (h : g.Made) : g.Ok := by
  have := mkG_ok h.rs h.why
  rw [← h.eq] at this
  exact this
theorem GramD.Made.mk' {signs start : Tx} {rs : List RuleD} (hg : ∀ r ∈ rs, r.good = true) (h : whyG signs start rs = none) : (mkG signs start rs).Made := ⟨hg, h, rfl⟩
section
variable {P : Program} {w : World} {K : PySem.W.Frag} {mg : Str → Option Value} {base : Heap}
theorem ev_mkG {X : Cx} {Γ : List Tw.Slot} {pos p : Pos} {e1 e2 e3 : Expr} {k : Nat} {signs start : Tx} {rs : List RuleD} (T : Txt X.K X.mg) (hr : Room k X.A) (ha : EA X Γ [e1, e2, e3] [vl signs, vl start, vl rs]) (hg : ∀ r ∈ rs, r.good = true) (hw : whyG signs start rs = none) (l1 : signs.length ≤ 1000) (l2 : start.length ≤ 1000) (l3 : rs.length ≤ 1000) (hk : autoParam (7 ≤ k) Tw.aDec) (hgl : autoParam (Gl X "Grammar") Tw.aRfl)
    (he : autoParam (starEach [e1, e2, e3] X.env = (false, eval e1 X.env) :: starEach [e2, e3] X.env) Tw.aStar) (hpl : autoParam ((backTo pos (starEach [e2, e3] X.env)).any (·.1) = false) Tw.aPl) : EV X Γ (.Call (.Name "Grammar" p) [e1, e2, e3] [] pos) (mkG signs start rs) :=
  ev_makeV (x := mkG signs start rs) T.o_Grammar (ok_Grammar_init T) (hr.mono hk) rfl ha (fun C hC ad dx P' R' h => ⟨C, ad, dx, signs, start, rs, rfl, hC, l1, l2, l3, hg, fun _ => h, fun y hy => by rw [hw] at hy; cases hy⟩) hgl (by decide) he hpl
end
set_option genInjectivity true in
inductive Tr where
  | node (n : Int) (ts : List Tr)
noncomputable def Tr.num : Tr → Int
  | .node n _ => n
noncomputable def Tr.subs : Tr → List Tr
  | .node _ ts => ts
mutual
noncomputable def Tr.d : Tr → Dy
  | .node n ts => .t (.i n :: Tr.ds ts)
noncomputable def Tr.ds : List Tr → List Dy
  | [] => []
  | t :: ts => t.d :: Tr.ds ts
end
theorem Tr.ds_map : ∀ ts : List Tr, Tr.ds ts = ts.map Tr.d
  | [] => by rw [Tr.ds]; rfl
  | t :: ts => by rw [Tr.ds, Tr.ds_map ts]; rfl
theorem Tr.d_eq : ∀ t : Tr, t.d = .t (.i t.num :: t.subs.map Tr.d)
  | .node n ts => by rw [Tr.d, Tr.ds_map]; rfl
noncomputable instance repTr : Rep Tr := repOfD Tr.d
noncomputable instance isdTr : IsD Tr := ⟨Tr.d, Iff.rfl⟩
mutual
noncomputable def Tr.dep : Tr → Nat
  | .node _ ts => Tr.deps ts + 1
noncomputable def Tr.deps : List Tr → Nat
  | [] => 0
  | t :: ts => max t.dep (Tr.deps ts)
end
theorem Tr.deps_mem {s : Tr} : ∀ {ts : List Tr}, s ∈ ts → s.dep ≤ Tr.deps ts
  | t :: ts, h => by
    rw [Tr.deps]
    rcases List.mem_cons.mp h with rfl | h
    · omega
    · have := Tr.deps_mem h; omega
theorem Tr.dep_pos : ∀ t : Tr, 0 < t.dep
  | .node n ts => by rw [Tr.dep]; omega
theorem Tr.dep_sub {t s : Tr} (h : s ∈ t.subs) : s.dep < t.dep := by
  cases t with
  | node n ts =>
    have := Tr.deps_mem (show s ∈ ts from h)
    rw [Tr.dep]
    omega
theorem atI_cons0 {A : Type} {x : A} {xs : List A} : atI (x :: xs) 0 = some x := atI_nat (xs := x :: xs) (j := 0) rfl
theorem atI_consS {A : Type} {x y : A} {xs : List A} {k : Nat} (h : xs[k]? = some y) : atI (x :: xs) (1 + (k : Int)) = some y := by
  have := atI_nat (xs := x :: xs) (j := k + 1) (v := y) (by simpa using h)
  rwa [show (((k + 1 : Nat)) : Int) = 1 + (k : Int) by omega] at this
section
variable {X : Cx} {Γ : List Slot} {pos p p2 : Pos} {e a b : Expr} {t s : Tr}
theorem ev_num (h : EV X Γ e t) (hi : EV X Γ b (0 : Int)) (hp : autoParam (PlainIx b) Tw.aIR2) : EV X Γ (.Subscript e b pos) t.num := ev_ixY (α := Tr) (β := Int) h hi (Tr.d_eq t) atI_cons0 hp
theorem ev_sub {k : Nat} {n : Int} (h : EV X Γ e t) (hi : EV X Γ b n) (hk : t.subs[k]? = some s) (hn : n = 1 + (k : Int)) (hp : autoParam (PlainIx b) Tw.aIR2) : EV X Γ (.Subscript e b pos) s :=
  ev_ixY (α := Tr) (β := Tr) h hi (Tr.d_eq t) (by rw [hn]; exact atI_consS (by rw [List.getElem?_map, hk]; rfl)) hp
theorem ev_tupTr (h : EV X Γ e t) : EV X Γ e (Tup.mk (Dy.i t.num :: t.subs.map Tr.d)) := ev_t (by have := ev_d h; rw [show (isdTr).d t = Tr.d t from rfl, Tr.d_eq] at this; exact this)
theorem ev_ofTup {xs : List Dy} (h : EV X Γ e (Tup.mk xs)) (q : t.d = .t xs) : EV X Γ e t := ev_u (α := Tr) (ev_ot h) q.symm
theorem ev_subs (h : EV X Γ e t) (hl : EV X Γ a (1 : Int)) : EV X Γ (.Subscript e (.Slice (some a) none none p2) pos) (Tup.mk t.subs) := by
  have h1 := ev_sliceT (p2 := p2) (pos := pos) (lo := some a) (hi := none) (o1 := some ((1 : Nat) : Int)) (o2 := none) (ev_tupTr h) hl trivial (whole_no 1 none (by decide) (by simp))
  refine ev_tt (α := Dy) (β := Tr) h1 ?_
  rw [cutL_from]
  show (t.subs.map Tr.d).map (fun x => x) = t.subs.map Tr.d
  exact List.map_id' _
theorem ev_lenTr (hm : X.mg "len" = none) (h : EV X Γ e t) (hg : autoParam (Gl X "len") Tw.aRfl) (hs : autoParam (starEach [e] X.env = (false, eval e X.env) :: starEach [] X.env) Tw.aStar) (hpl : autoParam ((backTo pos (starEach [] X.env)).any (·.1) = false) Tw.aPl) :
    EV X Γ (.Call (.Name "len" p) [e] [] pos) (1 + (t.subs.length : Int)) := ev_eq (ev_lenY (α := Tr) hm h (Tr.d_eq t) hg hs hpl) (by rw [List.length_cons, List.length_map]; omega)
end
noncomputable abbrev Flt := Tx × Tup Int
noncomputable def ruleAt (rs : List RuleD) (n : Int) : RuleD := rs.getD n.toNat (.cell [] 0 [])
noncomputable def nfHead (rs : List RuleD) (n : Int) (ar : Nat) (pl : List Int) (nm : Option Tx) : Option Flt :=
  if (decide (n < 0) || decide ((rs.length : Int) ≤ n)) = true then some (tx "number", ⟨pl⟩) else
  if ar ≠ (ruleAt rs n).parts.length then some (tx "parts", ⟨pl⟩) else
  if nm.isSome = true ∧ nm ≠ some (ruleAt rs n).name then some (tx "name", ⟨pl⟩) else none
mutual
noncomputable def nf (rs : List RuleD) : Tr → List Int → Option Tx → Option Flt
  | .node n ts, pl, nm => match nfHead rs n ts.length pl nm with
    | some f => some f
    | none => nfs rs ts pl 0 (ruleAt rs n).parts
noncomputable def nfs (rs : List RuleD) : List Tr → List Int → Nat → List Tx → Option Flt
  | [], _, _, _ => none
  | t :: ts, pl, k, ps => match nf rs t (pl ++ [(k : Int)]) (some (ps.headD [])) with
    | some f => some f
    | none => nfs rs ts pl (k + 1) ps.tail
end
theorem nf_eq (rs : List RuleD) (t : Tr) (pl : List Int) (nm : Option Tx) : nf rs t pl nm = match nfHead rs t.num t.subs.length pl nm with
    | some f => some f
    | none => nfs rs t.subs pl 0 (ruleAt rs t.num).parts := by
  cases t with
  | node n ts => rw [nf]; rfl
theorem nfs_step {rs : List RuleD} {ts : List Tr} {pl : List Int} {k : Nat} {ps : List Tx} {s : Tr} {q : Tx} (h : ts[k]? = some s) (h2 : ps[k]? = some q) :
    nfs rs (ts.drop k) pl k (ps.drop k) = match nf rs s (pl ++ [(k : Int)]) (some q) with | some f => some f | none => nfs rs (ts.drop (k + 1)) pl (k + 1) (ps.drop (k + 1)) := by
  obtain ⟨hk, rfl⟩ := List.getElem?_eq_some_iff.mp h
  obtain ⟨hk2, rfl⟩ := List.getElem?_eq_some_iff.mp h2
  rw [List.drop_eq_getElem_cons hk, List.drop_eq_getElem_cons hk2, nfs]
  rfl
noncomputable def nfS (d : Nat) : Tw.Spec := fun A P _ => ∃ (g : GramD) (t : Tr) (pl : List Int) (nm : Option Tx), A = [vl g, vl t, vl (Tup.mk pl), vl nm] ∧ t.dep ≤ d ∧ pl.length + d ≤ 900 ∧ P (rv (nf g.rules t pl nm))
section
variable {P : Program} {w : World} {K : PySem.W.Frag} {mg : Str → Option Value} {base : Heap}
theorem rule_at {rs : List RuleD} {n : Int} (h : (decide (n < 0) || decide ((rs.length : Int) ≤ n)) = false) : atI rs n = some (ruleAt rs n) ∧ ruleAt rs n ∈ rs := by
  simp only [Bool.or_eq_false_iff, decide_eq_false_iff_not] at h
  have hlt : n.toNat < rs.length := by omega
  have e : ruleAt rs n = rs[n.toNat] := by
    unfold ruleAt
    rw [List.getD_eq_getElem?_getD, List.getElem?_eq_getElem hlt]
    rfl
  refine ⟨?_, by rw [e]; exact List.getElem_mem hlt⟩
  have := atI_nat (xs := rs) (j := n.toNat) (List.getElem?_eq_getElem hlt)
  rw [e]
  rwa [show ((n.toNat : Nat) : Int) = n by omega] at this
theorem ok_name_fault (T : Txt K mg) : ∀ d, Has P w K mg base (2 + d) "name_fault" ["grammar", "tree", "place", "name"] (nfS d) := by
  intro d
  induction d with
  | zero => exact Has.of (k := 1) T.f_name_fault sc_name_fault (fun A Q R ⟨g, t, pl, nm, e, _⟩ => by rw [e]; rfl) fun f cdv A outer s0 H E hr Γ Q R ⟨g, t, pl, nm, e, hd, _⟩ => absurd (Tr.dep_pos t) (by omega)
  | succ d ih =>
    refine Has.of (k := 2 + d) T.f_name_fault sc_name_fault (fun A Q R ⟨g, t, pl, nm, e, _⟩ => by rw [e]; rfl) fun f cdv A outer s0 H E hr Γ Q R ⟨g, t, pl, nm, e, hd, hl, hq⟩ => ?_
    subst e
    rw [nf_eq] at hq
    unfold nfHead at hq
    refine st_if (et_or (et_cmp o_lt (ev_num (ev_var 1) ev_int) ev_int) fun _ => et_cmp o_ge (ev_num (ev_var 1) ev_int) (ev_meth0 (x := g) (y := (g.rules.length : Int)) T.o_Grammar (ok_Grammar_many T) (hr.mono (by omega)) rfl (lk rfl) (ev_var 0) fun P' R' h => ⟨g, rfl, h⟩)) (fun h => ?_) (fun h => st_nil ?_)
    · rw [if_pos h] at hq
      exact st_retV (ev_some (ev_pair (ev_str "number") (ev_var 2))) hq
    rw [if_neg (by rw [h]; decide)] at hq
    obtain ⟨hat, _⟩ := rule_at h
    generalize ruleAt g.rules t.num = r at hq hat
    refine st_set 4 (x := r) (ev_of_ex (ex_of_exx (exx_meth (x := g) T.o_Grammar (ok_Grammar_rule T) (hr.mono (by omega)) rfl (lk rfl) (ev_var 0) (ea_cons (ev_num (ev_var 1) ev_int) ea_nil) fun P' R' h _ => ⟨g, _, _, rfl, hat, h _ rfl⟩))) ?_ sc_name_fault.nd
    refine st_setN 5 (en_meth0 (x := r) (o_cls T r) (ok_parts T r) (hr.mono (by omega)) rfl (RuleD.f_parts r) (ev_var 4) fun P' R' h => ⟨r, rfl, rfl, h⟩) (fun ad => ?_) sc_name_fault.nd
    refine st_freeze 5 frozL ?_
    refine st_if (k := !decide (t.subs.length = r.parts.length)) (et_eq (et_cmp o_ne (ev_bin o_sub (ev_lenTr T.b_len (ev_var 1)) ev_int) (ev_len T.b_len (ev_var 5))) (by congr 1; exact decide_eq_decide.mpr (by omega))) (fun h => ?_) (fun h => st_nil ?_)
    · rw [if_pos (by simpa using h)] at hq
      exact st_retV (ev_some (ev_pair (ev_str "parts") (ev_var 2))) hq
    have hlen : t.subs.length = r.parts.length := by simpa using h
    rw [if_neg (by simpa using hlen)] at hq
    have rest : nm.isSome = true ∧ nm ≠ some r.name ∨ ¬ (nm.isSome = true ∧ nm ≠ some r.name) := Classical.em _
    have hcond : ∀ {X : Cx} {e1 e2 e3 : Expr}, True := trivial
    refine st_if (k := decide (nm.isSome = true ∧ nm ≠ some r.name)) ?_ (fun h => ?_) (fun h => st_nil ?_)
    · cases nm with
      | none => exact et_eq (et_and (k := false) (m := true) (et_cmp (o_notO (α := Tx)) (ev_var 3) ev_non) fun h => nomatch h) (by simp)
      | some x => exact et_eq (et_and (et_cmp (o_notO (α := Tx)) (ev_var 3) ev_non) fun _ => et_cmp o_neS (ev_fld (x := r) (y := r.name) (o_cls T r) (a_name T r) rfl (RuleD.f_name r) (ev_var 4)) (ev_un (ev_var 3))) (by simp [eq_comm])
    · rw [if_pos (of_decide_eq_true h)] at hq
      exact st_retV (ev_some (ev_pair (ev_str "name") (ev_var 2))) hq
    rw [if_neg (of_decide_eq_false h)] at hq
    refine st_for (fun k Γ' => Le Γ' [vl g, vl t, vl (Tup.mk pl), vl nm, vl r, vl r.parts, .no, .no, .no] ∧ nfs g.rules t.subs pl 0 r.parts = nfs g.rules (t.subs.drop k) pl k (r.parts.drop k)) (src_enum T.b_enumerate (ev_var 5)) (tg_pair 6 7 (by decide)) ⟨Le.refl, by rw [List.drop_zero, List.drop_zero]⟩ (fun k x Γ' hk hP => ?_) (fun Γ' hP => ?_) (pg2 6 7 (pgn 6 sc_name_fault.nd) (pgn 7 sc_name_fault.nd))
    · obtain ⟨n, q⟩ := x
      obtain ⟨h1, h2⟩ := enumL_get hk
      have h1 : n = (k : Int) := h1
      have h2 : r.parts[k]? = some q := h2
      subst h1
      have hkl : k < t.subs.length := by rw [hlen]; exact (List.getElem?_eq_some_iff.mp h2).1
      have hs : t.subs[k]? = some t.subs[k] := List.getElem?_eq_getElem hkl
      generalize t.subs[k] = s at hs
      have hsm : s ∈ t.subs := List.mem_of_getElem? hs
      have hds := Tr.dep_sub hsm
      refine st_le (Le.set (Le.set hP.1 6 _) 7 _) ?_
      refine st_set 8 (x := nf g.rules s (pl ++ [(k : Int)]) (some q)) (ev_call ih (hr.mono (by omega)) (ea_cons (ev_var 0) (ea_cons (ev_sub (ev_var 1) (ev_bin o_add ev_int (ev_var 6)) hs rfl) (ea_cons (ev_catT0 (xs := Tup.mk pl) (ys := Tup.mk [(k : Int)]) (ev_var 2) (ev_tupH (es_cons (ev_var 6) es_nil)) (sl_small (by simp; omega))) (ea_cons (x := some q) (ev_some (ev_var 7)) ea_nil)))) fun P R h => ⟨g, s, pl ++ [(k : Int)], some q, rfl, by omega, by rw [List.length_append, List.length_singleton]; omega, h⟩) ?_ sc_name_fault.nd
      have step := nfs_step (rs := g.rules) (pl := pl) hs h2
      cases hv : nf g.rules s (pl ++ [(k : Int)]) (some q) with
      | some f =>
        refine st_if (k := true) (et_cmp (o_notO (α := Flt)) (ev_var 8) ev_non) (fun _ => ?_) (fun h => nomatch h)
        rw [hP.2, step, hv] at hq
        exact st_retV (ev_var 8) hq
      | none =>
        refine st_if (k := false) (et_cmp (o_notO (α := Flt)) (ev_var 8) ev_non) (fun h => nomatch h) (fun _ => st_nil (st_nil ?_))
        rw [hv] at step
        exact ⟨le_cons (le_cons (le_cons (le_cons (le_cons (le_cons (le_no (le_no (le_no le_nil)))))))), hP.2.trans step⟩
    · refine st_le hP.1 ?_
      rw [hP.2, enumL_len, ← hlen, List.drop_length, nfs] at hq
      exact st_retV ev_nonO hq
end
mutual
noncomputable def Tr.wf (rs : List RuleD) : Tr → Prop
  | .node n ts => (decide (n < 0) || decide ((rs.length : Int) ≤ n)) = false ∧ ts.length = (ruleAt rs n).parts.length ∧ Tr.wfs rs ts
noncomputable def Tr.wfs (rs : List RuleD) : List Tr → Prop
  | [] => True
  | t :: ts => t.wf rs ∧ Tr.wfs rs ts
end
theorem Tr.wf_iff {rs : List RuleD} {t : Tr} : t.wf rs ↔ (decide (t.num < 0) || decide ((rs.length : Int) ≤ t.num)) = false ∧ t.subs.length = (ruleAt rs t.num).parts.length ∧ Tr.wfs rs t.subs := by
  cases t with
  | node n ts => rw [Tr.wf]; exact Iff.rfl
theorem Tr.wfs_mem {rs : List RuleD} {s : Tr} : ∀ {ts : List Tr}, Tr.wfs rs ts → s ∈ ts → s.wf rs
  | t :: ts, h, hs => by
    rw [Tr.wfs] at h
    rcases List.mem_cons.mp hs with rfl | hs
    · exact h.1
    · exact Tr.wfs_mem h.2 hs
mutual
theorem nf_wf {rs : List RuleD} : ∀ (t : Tr) (pl : List Int) (nm : Option Tx), nf rs t pl nm = none → t.wf rs
  | .node n ts, pl, nm, h => by
    rw [nf] at h
    rw [Tr.wf]
    cases hh : nfHead rs n ts.length pl nm with
    | some f => rw [hh] at h; cases h
    | none =>
      rw [hh] at h
      have h : nfs rs ts pl 0 (ruleAt rs n).parts = none := h
      unfold nfHead at hh
      split at hh
      · cases hh
      rename_i h1
      split at hh
      · cases hh
      rename_i h2
      exact ⟨(by cases q : (decide (n < 0) || decide ((rs.length : Int) ≤ n)) with
        | true => exact absurd q h1
        | false => rfl), Classical.not_not.mp h2, nfs_wf ts pl 0 _ h⟩
theorem nfs_wf {rs : List RuleD} : ∀ (ts : List Tr) (pl : List Int) (k : Nat) (ps : List Tx), nfs rs ts pl k ps = none → Tr.wfs rs ts
  | [], _, _, _, _ => by rw [Tr.wfs]; trivial
  | t :: ts, pl, k, ps, h => by
    rw [nfs] at h
    rw [Tr.wfs]
    cases hh : nf rs t (pl ++ [(k : Int)]) (some (ps.headD [])) with
    | some f => rw [hh] at h; cases h
    | none =>
      rw [hh] at h
      exact ⟨nf_wf t _ _ hh, nfs_wf ts _ _ _ h⟩
end
mutual
noncomputable def mk (rs : List RuleD) : Tr → List Int → Except Flt Pic
  | .node n ts, pl => match mks rs ts pl 0 with
    | .error f => .error f
    | .ok ps => match (ruleAt rs n).made ps with
      | some p => .ok p
      | none => .error (tx "fit", ⟨pl⟩)
noncomputable def mks (rs : List RuleD) : List Tr → List Int → Nat → Except Flt (List Pic)
  | [], _, _ => .ok []
  | t :: ts, pl, k => match mk rs t (pl ++ [(k : Int)]) with
    | .error f => .error f
    | .ok p => match mks rs ts pl (k + 1) with
      | .error f => .error f
      | .ok ps => .ok (p :: ps)
end
noncomputable def addP (ps : List Pic) : Except Flt (List Pic) → Except Flt (List Pic)
  | .error f => .error f
  | .ok qs => .ok (ps ++ qs)
theorem mk_eq (rs : List RuleD) (t : Tr) (pl : List Int) : mk rs t pl = match mks rs t.subs pl 0 with
    | .error f => .error f
    | .ok ps => match (ruleAt rs t.num).made ps with
      | some p => .ok p
      | none => .error (tx "fit", ⟨pl⟩) := by
  cases t with
  | node n ts => rw [mk]; rfl
theorem mks_step {rs : List RuleD} {ts : List Tr} {pl : List Int} {k : Nat} {s : Tr} (h : ts[k]? = some s) :
    mks rs (ts.drop k) pl k = match mk rs s (pl ++ [(k : Int)]) with | .error f => .error f | .ok p => addP [p] (mks rs (ts.drop (k + 1)) pl (k + 1)) := by
  obtain ⟨hk, rfl⟩ := List.getElem?_eq_some_iff.mp h
  rw [List.drop_eq_getElem_cons hk, mks]
  cases mk rs ts[k] (pl ++ [(k : Int)]) with
  | error f => rfl
  | ok p => cases mks rs (ts.drop (k + 1)) pl (k + 1) <;> rfl
theorem addP_app (a b : List Pic) (x : Except Flt (List Pic)) : addP a (addP b x) = addP (a ++ b) x := by
  cases x with
  | error f => rfl
  | ok qs => show Except.ok _ = Except.ok _; rw [List.append_assoc]
theorem made_pic {r : RuleD} {ps : List Pic} {p : Pic} (hg : r.good = true) (hl : ps.length = r.parts.length) (h : ∀ q ∈ ps, PicIn q) (e : r.made ps = some p) : PicIn p := by
  cases r with
  | cell n c s =>
    simp only [RuleD.good, Bool.and_eq_true] at hg
    have := signOk_of hg.1
    cases e
    exact ⟨1, 1, rfl, fun x hx => by rw [List.mem_singleton.mp hx]; exact this, by decide, by decide, by decide, by decide⟩
  | beside n c a b =>
    obtain ⟨x, y, rfl⟩ := two_of hl
    obtain ⟨_, _, kx⟩ := h x (by simp)
    obtain ⟨_, _, ky⟩ := h y (by simp)
    have e : (if fitsP true x y then some (putT true x y) else none) = some p := e
    split at e
    · rename_i hf
      cases e
      rw [PicIn.fits kx ky] at hf
      exact Pk.put kx ky hf
    · cases e
  | above n c a b =>
    obtain ⟨x, y, rfl⟩ := two_of hl
    obtain ⟨_, _, kx⟩ := h x (by simp)
    obtain ⟨_, _, ky⟩ := h y (by simp)
    have e : (if fitsP false x y then some (putT false x y) else none) = some p := e
    split at e
    · rename_i hf
      cases e
      rw [PicIn.fits kx ky] at hf
      exact Pk.put kx ky hf
    · cases e
  | turn n c a t =>
    obtain ⟨x, rfl⟩ := one_of hl
    obtain ⟨_, _, kx⟩ := h x (by simp)
    cases e
    exact ⟨_, _, kx.turned _⟩
mutual
theorem mk_pic {rs : List RuleD} (hg : ∀ r ∈ rs, r.good = true) : ∀ (t : Tr) (pl : List Int) (p : Pic), t.wf rs → mk rs t pl = .ok p → PicIn p
  | .node n ts, pl, p, hw, h => by
    rw [mk] at h
    rw [Tr.wf] at hw
    obtain ⟨h1, h2, h3⟩ := hw
    cases hh : mks rs ts pl 0 with
    | error f => rw [hh] at h; cases h
    | ok ps =>
      rw [hh] at h
      obtain ⟨hl, hp⟩ := mks_pic hg ts pl 0 ps h3 hh
      have h : (match (ruleAt rs n).made ps with | some p => (.ok p : Except Flt Pic) | none => .error (tx "fit", ⟨pl⟩)) = .ok p := h
      cases hm : (ruleAt rs n).made ps with
      | none => rw [hm] at h; cases h
      | some q =>
        rw [hm] at h
        cases h
        exact made_pic (hg _ (rule_at h1).2) (hl.trans h2) hp hm
theorem mks_pic {rs : List RuleD} (hg : ∀ r ∈ rs, r.good = true) : ∀ (ts : List Tr) (pl : List Int) (k : Nat) (ps : List Pic), Tr.wfs rs ts → mks rs ts pl k = .ok ps → ps.length = ts.length ∧ ∀ p ∈ ps, PicIn p
  | [], pl, k, ps, _, h => by
    rw [mks] at h
    cases h
    exact ⟨rfl, fun _ z => (List.not_mem_nil z).elim⟩
  | t :: ts, pl, k, ps, hw, h => by
    rw [mks] at h
    rw [Tr.wfs] at hw
    cases h1 : mk rs t (pl ++ [(k : Int)]) with
    | error f => rw [h1] at h; cases h
    | ok p =>
      rw [h1] at h
      have h : (match mks rs ts pl (k + 1) with | .error f => (.error f : Except Flt (List Pic)) | .ok ps => .ok (p :: ps)) = .ok ps := h
      cases h2 : mks rs ts pl (k + 1) with
      | error f => rw [h2] at h; cases h
      | ok qs =>
        rw [h2] at h
        cases h
        obtain ⟨a1, a2⟩ := mks_pic hg ts pl (k + 1) qs hw.2 h2
        refine ⟨by rw [List.length_cons, List.length_cons, a1], fun q hq => ?_⟩
        rcases List.mem_cons.mp hq with rfl | hq
        · exact mk_pic hg t _ _ hw.1 h1
        · exact a2 q hq
end
theorem turnOk_good {r : RuleD} (h : r.good = true) : r.turnOk := by
  cases r with
  | turn n c a t =>
    simp only [RuleD.good, Bool.and_eq_true, decide_eq_true_eq] at h
    exact h.1.1
  | _ => trivial
noncomputable abbrev MB := Option Pic × Option Flt
noncomputable def mbS (d : Nat) : Tw.Spec := fun A P _ => ∃ (g : GramD) (t : Tr) (pl : List Int), A = [vl g, vl t, vl (Tup.mk pl)] ∧ t.dep ≤ d ∧ pl.length + d ≤ 900 ∧ t.wf g.rules ∧ (∀ r ∈ g.rules, r.good = true) ∧
  (∀ p, mk g.rules t pl = .ok p → P (.own fun o => ∃ ad l, o = ownLN repTx ad l p)) ∧ (∀ f, mk g.rules t pl = .error f → P (rv ((none, some f) : MB)))
noncomputable def laS : Tw.Spec := fun A P _ => ∃ (g : GramD) (t : Tr), A = [vl g, vl t] ∧ t.dep ≤ 80 ∧ (∀ r ∈ g.rules, r.good = true) ∧ (∀ f, nf g.rules t [] none = some f → P (rv ((none, some f) : MB))) ∧
  (nf g.rules t [] none = none → (∀ p, mk g.rules t [] = .ok p → P (.own fun o => ∃ ad l, o = ownLN repTx ad l p)) ∧ (∀ f, mk g.rules t [] = .error f → P (rv ((none, some f) : MB))))
noncomputable def faultOf (rs : List RuleD) (t : Tr) : Option Flt := match nf rs t [] none with
  | some f => some f
  | none => match mk rs t [] with
    | .error f => some f
    | .ok _ => none
noncomputable def tfS : Tw.Spec := fun A P _ => ∃ (g : GramD) (t : Tr), A = [vl g, vl t] ∧ t.dep ≤ 80 ∧ (∀ r ∈ g.rules, r.good = true) ∧ P (rv (faultOf g.rules t))
section
variable {P : Program} {w : World} {K : PySem.W.Frag} {mg : Str → Option Value} {base : Heap}
theorem ev_mbOk {X : Cx} {Γ : List Tw.Slot} {e : Expr} {p : Pic} (h : EX X Γ e (fun r => r = .own fun o => ∃ ad l, o = ownLN repTx ad l p)) : EV X Γ e ((some p, none) : MB) := ev_ofO h fun o ⟨ad, l, q⟩ => by subst q; exact frozLN
theorem ok_made_by (T : Txt K mg) : ∀ d, Has P w K mg base (5 + d) "made_by" ["grammar", "tree", "place"] (mbS d) := by
  intro d
  induction d with
  | zero => exact Has.of (k := 4) T.f_made_by sc_made_by (fun A Q R ⟨g, t, pl, e, _⟩ => by rw [e]; rfl) fun f cdv A outer s0 H E hr Γ Q R ⟨g, t, pl, e, hd, _⟩ => absurd (Tr.dep_pos t) (by omega)
  | succ d ih =>
    refine Has.of (k := 5 + d) T.f_made_by sc_made_by (fun A Q R ⟨g, t, pl, e, _⟩ => by rw [e]; rfl) fun f cdv A outer s0 H E hr Γ Q R ⟨g, t, pl, e, hd, hl, hw, hg, q1, q2⟩ => ?_
    subst e
    rw [mk_eq] at q1 q2
    obtain ⟨w1, w2, w3⟩ := Tr.wf_iff.mp hw
    obtain ⟨hat, hmem⟩ := rule_at w1
    have hrg := hg _ hmem
    refine st_setN 3 (xs := ([] : List Pic)) (en_nil Pic) (fun ad => ?_) sc_made_by.nd
    refine st_for (fun k Γ' => ∃ ps : List Pic, Le Γ' [vl g, vl t, vl (Tup.mk pl), .lst repList ad ps, .no, .no, .no, .no, .no] ∧ ps.length = k ∧ (∀ p ∈ ps, PicIn p) ∧ mks g.rules t.subs pl 0 = addP ps (mks g.rules (t.subs.drop k) pl k)) (src_enumT T.b_enumerate (ev_subs (ev_var 1) ev_int)) (tg_pair 4 5 (by decide))
      ⟨[], Le.refl, rfl, fun _ z => (List.not_mem_nil z).elim, by rw [List.drop_zero]; cases mks g.rules t.subs pl 0 <;> rfl⟩ (fun k x Γ' hk hP => ?_) (fun Γ' hP => ?_) (pg2 4 5 (pgn 4 sc_made_by.nd) (pgn 5 sc_made_by.nd))
    · obtain ⟨n, s⟩ := x
      obtain ⟨h1, hs⟩ := enumL_get hk
      have h1 : n = (k : Int) := h1
      have hs : t.subs[k]? = some s := hs
      subst h1
      obtain ⟨ps, le, hpl, hpp, hinv⟩ := hP
      have hsm : s ∈ t.subs := List.mem_of_getElem? hs
      have hds := Tr.dep_sub hsm
      have hws := Tr.wfs_mem w3 hsm
      have hkl := (List.getElem?_eq_some_iff.mp hs).1
      have hkp : k < 2 := by rw [w2] at hkl; exact Nat.lt_of_lt_of_le hkl (RuleD.parts_len _)
      have step := mks_step (rs := g.rules) (pl := pl) hs
      refine st_le (Le.set (Le.set le 4 _) 5 _) ?_
      have arg : ∀ {X : Cx} {Γ : List Tw.Slot}, True := trivial
      cases hv : mk g.rules s (pl ++ [(k : Int)]) with
      | ok p =>
        refine st_unpack2 6 7 (x := ((some p, none) : MB)) (ev_mbOk (ex_call ih (hr.mono (by omega)) (ea_cons (ev_var 0) (ea_cons (ev_var 5) (ea_cons (ev_catT0 (xs := Tup.mk pl) (ys := Tup.mk [(k : Int)]) (ev_var 2) (ev_tupH (es_cons (ev_var 4) es_nil)) (sl_small (by simp; omega))) ea_nil)))
          fun P' R' h => ⟨g, s, pl ++ [(k : Int)], rfl, by omega, by rw [List.length_append, List.length_singleton]; omega, hws, hg, fun p' e => by rw [hv] at e; cases e; exact h _ rfl, fun f e => by rw [hv] at e; cases e⟩)) ?_ (pg2 6 7 (pgn 6 sc_made_by.nd) (pgn 7 sc_made_by.nd))
        refine st_if (k := false) (et_cmp (o_notO (α := Flt)) (ev_var 7) ev_non) (fun h => nomatch h) (fun _ => st_nil ?_)
        refine st_append 3 (ad := ad) (xs := ps) (x := p) (ev_un (ev_var 6)) (st_nil ?_) (lt_line (by omega))
        rw [hv] at step
        refine ⟨ps ++ [p], le_cons (le_cons (le_cons (le_cons (le_no (le_no (le_no (le_no (le_no le_nil)))))))), by rw [List.length_append, hpl]; rfl, fun q hq => ?_, ?_⟩
        · rcases List.mem_append.mp hq with hq | hq
          · exact hpp q hq
          · rw [List.mem_singleton.mp hq]; exact mk_pic hg s _ _ hws hv
        · rw [hinv, step]
          exact addP_app ps [p] _
      | error f =>
        refine st_unpack2 6 7 (x := ((none, some f) : MB)) (ev_of_ex (ex_call ih (hr.mono (by omega)) (ea_cons (ev_var 0) (ea_cons (ev_var 5) (ea_cons (ev_catT0 (xs := Tup.mk pl) (ys := Tup.mk [(k : Int)]) (ev_var 2) (ev_tupH (es_cons (ev_var 4) es_nil)) (sl_small (by simp; omega))) ea_nil)))
          fun P' R' h => ⟨g, s, pl ++ [(k : Int)], rfl, by omega, by rw [List.length_append, List.length_singleton]; omega, hws, hg, fun p' e => by (rw [hv] at e; cases e), fun f' e => by rw [hv] at e; cases e; exact h _ rfl⟩)) ?_ (pg2 6 7 (pgn 6 sc_made_by.nd) (pgn 7 sc_made_by.nd))
        refine st_if (k := true) (et_cmp (o_notO (α := Flt)) (ev_var 7) ev_non) (fun _ => ?_) (fun h => nomatch h)
        rw [hv] at step
        rw [hinv, step] at q2
        exact st_retV (ev_pair (α := Option Pic) (β := Option Flt) ev_nonO (ev_var 7)) (q2 f rfl)
    · obtain ⟨ps, le, hpl, hpp, hinv⟩ := hP
      rw [enumL_len] at hpl hinv
      rw [List.drop_length, mks] at hinv
      have hinv : mks g.rules t.subs pl 0 = .ok ps := by rw [hinv]; show Except.ok _ = _; rw [List.append_nil]
      rw [hinv] at q1 q2
      refine st_le le ?_
      refine st_freeze 3 frozL ?_
      have hlr : ps.length = (ruleAt g.rules t.num).parts.length := by rw [hpl]; exact w2
      generalize ruleAt g.rules t.num = r at hat hrg hlr q1 q2
      refine st_tryO sc_made_by.nd T.x_NoFit fun pn xe hpass => ?_
      have hobj : ∀ {X : Cx} {Γ : List Tw.Slot}, True := trivial
      cases hm : r.made ps with
      | some p =>
        refine st_setO 8 (ex_pairLN (xs := p) (en_of_ex (ex_of_exx (exx_meth (x := r) (o_cls T r) (ok_made T r) (hr.mono (by omega)) rfl (RuleD.f_made r) (ev_of_ex (ex_of_exx (exx_meth (x := g) T.o_Grammar (ok_Grammar_rule T) (hr.mono (by omega)) rfl (lk rfl) (ev_var 0) (ea_cons (ev_num (ev_var 1) ev_int) ea_nil) fun P' R' h _ => ⟨g, _, _, rfl, hat, h _ rfl⟩))) (ea_cons (ev_var 3) ea_nil)
          fun P' R' h _ => ⟨r, ps, rfl, rfl, turnOk_good hrg, hlr, hpp, fun p' e => by rw [hm] at e; cases e; exact h _ rfl, fun e => by (rw [hm] at e; cases e)⟩))) ev_non) (fun o ho => st_nil ?_) sc_made_by.nd
        exact st_retO 8 (q1 p (by dsimp only; rw [hm])) ho
      | none =>
        refine st_setR 8 (R := fun y => y = NoFit) (exx_tupA (exa_x (exx_meth (x := r) (o_cls T r) (ok_made T r) (hr.mono (by omega)) rfl (RuleD.f_made r) (ev_of_ex (ex_of_exx (exx_meth (x := g) T.o_Grammar (ok_Grammar_rule T) (hr.mono (by omega)) rfl (lk rfl) (ev_var 0) (ea_cons (ev_num (ev_var 1) ev_int) ea_nil) fun P' R' h _ => ⟨g, _, _, rfl, hat, h _ rfl⟩))) (ea_cons (ev_var 3) ea_nil)
          fun P' R' _ h => ⟨r, ps, rfl, rfl, turnOk_good hrg, hlr, hpp, fun p' e => by (rw [hm] at e; cases e), fun _ => h _ rfl⟩))) (fun y e => ?_) sc_made_by.nd
        subst e
        refine .inl ⟨T.s_NoFit_NoFit, fun a pn => ?_⟩
        refine st_set 8 (i := @repPair _ _ repOpt repOpt) (x := ((none, some (tx "fit", Tup.mk pl)) : MB)) (ev_pair (α := Option Pic) (β := Option Flt) ev_nonO (ev_some (ev_pair (ev_str "fit") (ev_var 2)))) (st_nil ?_) sc_made_by.nd
        exact st_retV (ev_var 8) (q2 _ (by dsimp only; rw [hm]))
theorem ok_looked_at (T : Txt K mg) : Has P w K mg base 86 "looked_at" ["grammar", "tree"] laS := by
  refine Has.of T.f_looked_at sc_looked_at (fun A Q R ⟨g, t, e, _⟩ => by rw [e]; rfl) fun f cdv A outer s0 H E hr Γ Q R ⟨g, t, e, hd, hg, q1, q2⟩ => ?_
  subst e
  refine st_set 2 (x := nf g.rules t [] none) (ev_call (ok_name_fault T 80) (hr.mono (by decide)) (ea_cons (ev_var 0) (ea_cons (ev_var 1) (ea_cons (x := Tup.mk ([] : List Int)) (ev_tupH es_nil) (ea_cons (x := (none : Option Tx)) ev_nonO ea_nil)))) fun P R h => ⟨g, t, [], none, rfl, hd, by decide, h⟩) ?_ sc_looked_at.nd
  cases hv : nf g.rules t [] none with
  | some f =>
    refine st_if (k := true) (et_cmp (o_notO (α := Flt)) (ev_var 2) ev_non) (fun _ => ?_) (fun h => nomatch h)
    exact st_retV (ev_pair (α := Option Pic) (β := Option Flt) ev_nonO (ev_var 2)) (q1 f hv)
  | none =>
    obtain ⟨q3, q4⟩ := q2 hv
    refine st_if (k := false) (et_cmp (o_notO (α := Flt)) (ev_var 2) ev_non) (fun h => nomatch h) (fun _ => st_nil ?_)
    refine st_ret (ex_call (P := fun r => (∃ p, mk g.rules t [] = .ok p ∧ r = .own fun o => ∃ ad l, o = ownLN repTx ad l p) ∨ ∃ f, mk g.rules t [] = .error f ∧ r = rv ((none, some f) : MB)) (ok_made_by T 80) (hr.mono (by decide)) (ea_cons (ev_var 0) (ea_cons (ev_var 1) (ea_cons (x := Tup.mk ([] : List Int)) (ev_tupH es_nil) ea_nil)))
      fun P R h => ⟨g, t, [], rfl, hd, by decide, nf_wf t _ _ hv, hg, fun p e => h _ (.inl ⟨p, e, rfl⟩), fun f e => h _ (.inr ⟨f, e, rfl⟩)⟩) fun r hr' => ?_
    rcases hr' with ⟨p, e, rfl⟩ | ⟨f, e, rfl⟩
    · exact q3 p e
    · exact q4 f e
theorem ev_looked {X : Cx} {Γ : List Tw.Slot} {pos p : Pos} {e1 e2 : Expr} {g : GramD} {t : Tr} {k : Nat} (T : Txt X.K X.mg) (hr : Room k X.A) (hk : 86 ≤ k) (h1 : EV X Γ e1 g) (h2 : EV X Γ e2 t) (hd : t.dep ≤ 80) (hg : ∀ r ∈ g.rules, r.good = true) (hgl : autoParam (Gl X "looked_at") Tw.aRfl)
    (he : autoParam (starEach [e1, e2] X.env = (false, eval e1 X.env) :: starEach [e2] X.env) Tw.aStar) (he2 : autoParam (starEach [e2] X.env = (false, eval e2 X.env) :: starEach [] X.env) Tw.aStar) (hpl : autoParam ((backTo pos (starEach [e2] X.env)).any (·.1) = false) Tw.aPl) :
    ∃ y : Option Pic, EV X Γ (.Call (.Name "looked_at" p) [e1, e2] [] pos) ((y, faultOf g.rules t) : MB) := by
  unfold faultOf
  cases hv : nf g.rules t [] none with
  | some f => exact ⟨none, ev_of_ex (ex_call (ok_looked_at T) (hr.mono hk) (ea_cons h1 (ea_cons h2 ea_nil he2) he) (fun P R h => ⟨g, t, rfl, hd, hg, fun f' e => by rw [hv] at e; cases e; exact h _ rfl, fun e => by (rw [hv] at e; cases e)⟩) hgl (by decide) he hpl)⟩
  | none =>
    cases hm : mk g.rules t [] with
    | ok p => exact ⟨some p, ev_mbOk (ex_call (ok_looked_at T) (hr.mono hk) (ea_cons h1 (ea_cons h2 ea_nil he2) he) (fun P R h => ⟨g, t, rfl, hd, hg, fun f' e => by (rw [hv] at e; cases e), fun _ => ⟨fun p' e => by rw [hm] at e; cases e; exact h _ rfl, fun f' e => by (rw [hm] at e; cases e)⟩⟩) hgl (by decide) he hpl)⟩
    | error f => exact ⟨none, ev_of_ex (ex_call (ok_looked_at T) (hr.mono hk) (ea_cons h1 (ea_cons h2 ea_nil he2) he) (fun P R h => ⟨g, t, rfl, hd, hg, fun f' e => by (rw [hv] at e; cases e), fun _ => ⟨fun p' e => by (rw [hm] at e; cases e), fun f' e => by rw [hm] at e; cases e; exact h _ rfl⟩⟩) hgl (by decide) he hpl)⟩
theorem ev_looked1 {X : Cx} {Γ : List Tw.Slot} {pos p q1 q2 : Pos} {e1 e2 : Expr} {g : GramD} {t : Tr} {k kk : Nat} (T : Txt X.K X.mg) (hr : Room k X.A) (hk : 86 ≤ k) (h1 : EV X Γ e1 g) (h2 : EV X Γ e2 t) (hd : t.dep ≤ 80) (hg : ∀ r ∈ g.rules, r.good = true) (hgl : autoParam (Gl X "looked_at") Tw.aRfl)
    (he : autoParam (starEach [e1, e2] X.env = (false, eval e1 X.env) :: starEach [e2] X.env) Tw.aStar) (he2 : autoParam (starEach [e2] X.env = (false, eval e2 X.env) :: starEach [] X.env) Tw.aStar) (hpl : autoParam ((backTo pos (starEach [e2] X.env)).any (·.1) = false) Tw.aPl) :
    EV X Γ (.Subscript (.Call (.Name "looked_at" p) [e1, e2] [] pos) (.Constant (.int 1) kk q1) q2) (faultOf g.rules t) := by
  obtain ⟨y, h⟩ := ev_looked (pos := pos) (p := p) T hr hk h1 h2 hd hg hgl he he2 hpl
  exact ev_snd h
theorem ok_tree_fault (T : Txt K mg) : Has P w K mg base 87 "tree_fault" ["grammar", "tree"] tfS := by
  refine Has.of T.f_tree_fault sc_tree_fault (fun A Q R ⟨g, t, e, _⟩ => by rw [e]; rfl) fun f cdv A outer s0 H E hr Γ Q R ⟨g, t, e, hd, hg, hq⟩ => ?_
  subst e
  exact st_retV (ev_looked1 T hr (by decide) (ev_var 0) (ev_var 1) hd hg) hq
end
noncomputable def capI (n : Int) : Nat := 65 + (n % 26).toNat
theorem cap_at : ∀ n, n < 26 → capTx[n]? = some (65 + n) := by decide +kernel
theorem cap_atI (n : Int) : atI capTx (n % 26) = some (capI n) := by
  have h1 := Int.emod_nonneg n (by decide : (26 : Int) ≠ 0)
  have h2 := Int.emod_lt_of_pos n (by decide : (0 : Int) < 26)
  have := atI_nat (cap_at (n % 26).toNat (by omega))
  rw [show (((n % 26).toNat : Nat) : Int) = n % 26 by omega] at this
  exact this
theorem capI_mem (n : Int) : capI n ∈ capTx := by
  have h1 := Int.emod_nonneg n (by decide : (26 : Int) ≠ 0)
  have h2 := Int.emod_lt_of_pos n (by decide : (0 : Int) < 26)
  exact List.mem_of_getElem? (cap_at (n % 26).toNat (by omega))
noncomputable def RuleD.of (signs : Tx) (r : RuleD) : Prop := match r with
  | .cell _ _ s => ∃ d ∈ signs, s = [d]
  | _ => True
theorem badSign_of {signs : Tx} : ∀ {rs : List RuleD} {k : Nat}, (∀ r ∈ rs, r.signIn signs = true) → badSign signs k rs = none
  | [], _, _ => rfl
  | r :: rs, k, h => by
    unfold badSign
    rw [h r (List.mem_cons_self ..), if_pos rfl]
    exact badSign_of fun q hq => h q (List.mem_cons_of_mem _ hq)
theorem RuleD.of_in {signs : Tx} {r : RuleD} (h : r.of signs) : r.signIn signs = true := by
  cases r with
  | cell n c s =>
    obtain ⟨d, hd, rfl⟩ := h
    exact decide_eq_true hd
  | _ => rfl
theorem nodup_le2 {l : List Tx} : ∀ {m : List Tx}, l.Nodup → (∀ x ∈ l, x ∈ m) → l.length ≤ m.length := by
  induction l with
  | nil => intro m _ _; exact Nat.zero_le _
  | cons x l ih =>
    intro m nd sub
    rw [List.nodup_cons] at nd
    have hx := sub x (List.mem_cons_self ..)
    have h1 := ih (m := m.erase x) nd.2 fun y hy => (List.mem_erase_of_ne fun (e : y = x) => nd.1 (e ▸ hy)).mpr (sub y (List.mem_cons_of_mem _ hy))
    rw [List.length_erase_of_mem hx] at h1
    have := List.length_pos_of_mem hx
    rw [List.length_cons]
    omega
theorem addNew_nd {met : List Tx} {n : Tx} (h : met.Nodup) : (addNew met n).Nodup := by
  unfold addNew
  split
  · exact h
  · rename_i hn
    rw [List.nodup_append]
    refine ⟨h, by simp, fun a ha b hb e => ?_⟩
    rw [List.mem_singleton.mp hb] at e
    exact hn (e ▸ ha)
theorem addAll_nd : ∀ {ns met : List Tx}, met.Nodup → (ns.foldl addNew met).Nodup
  | [], _, h => h
  | n :: ns, met, h => addAll_nd (ns := ns) (addNew_nd h)
theorem metAll_nd : ∀ {rs : List RuleD} {met : List Tx}, met.Nodup → (rs.foldl metR met).Nodup
  | [], _, h => h
  | r :: rs, met, h => metAll_nd (rs := rs) (addAll_nd h)
theorem metL_nd (start : Tx) (rs : List RuleD) : (metL start rs).Nodup := metAll_nd (by simp)
theorem why_drawn {signs start : Tx} {names : List Tx} {rs : List RuleD} (h1 : signsOk signs = true) (h2 : isName start = true) (h3 : start ∈ names) (h4 : names.length ≤ 8) (h5 : rs.length ≤ 24) (h6 : ∀ r ∈ rs, r.of signs ∧ ∀ n ∈ r.name :: r.parts, n ∈ names) : whyG signs start rs = none := by
  have hb : badSign signs 0 rs = none := badSign_of fun r hr => RuleD.of_in (h6 r hr).1
  have hl : (metL start rs).length ≤ names.length := nodup_le2 (metL_nd _ _) fun x hx => by
    rcases metAll_mem.mp hx with z | ⟨r, hr, z⟩
    · rw [List.mem_singleton.mp z]; exact h3
    · exact (h6 r hr).2 x z
  unfold whyG
  rw [if_neg (by rw [h1]; decide), if_neg (by rw [h2]; decide)]
  unfold whyRules
  rw [if_neg (by omega), hb]
  show (if 8 < (metL start rs).length then _ else none) = none
  rw [if_neg (by omega)]
theorem sm_nodup : ∀ a < 26, ∀ st < 6, ∀ n < 5, ((List.range n).map fun k => 97 + (a + k * (1 + 2 * st)) % 26).Nodup := by decide +kernel
structure RowT where
  r : RuleD
noncomputable def RuleD.kd : RuleD → Tx
  | .cell .. => tx "cell"
  | .beside .. => tx "beside"
  | .above .. => tx "above"
  | .turn .. => tx "turned"
noncomputable def RuleD.tail : RuleD → List Dy
  | .cell _ _ s => [.s s]
  | .beside _ _ a b => [.s a, .s b]
  | .above _ _ a b => [.s a, .s b]
  | .turn _ _ a t => [.s a, .i t]
noncomputable def RowT.d (q : RowT) : Dy := .t (.s q.r.kd :: .s q.r.name :: .i q.r.cost :: q.r.tail)
noncomputable instance repRowT : Rep RowT := repOfD RowT.d
noncomputable instance isdRowT : IsD RowT := ⟨RowT.d, Iff.rfl⟩
structure Stk where
  t : Tr
  n : Tx
  p : Pic
  c : Int
  many : Int
  deep : Int
noncomputable def Stk.d (s : Stk) : Dy := .t [s.t.d, .s s.n, .l (s.p.map .s), .i s.c, .i s.many, .i s.deep]
noncomputable instance repStk : Rep Stk := repOfD Stk.d
noncomputable instance isdStk : IsD Stk := ⟨Stk.d, Iff.rfl⟩
noncomputable abbrev cg {α : Type} [i : Rep α] (x : α) (o : Own) : Ret := .chg i x [o]
structure AlikeR (r r' : RuleD) : Prop where
  pt : r'.parts = r.parts
  md : ∀ ps, r'.made ps = r.made ps
mutual
noncomputable def Tr.size : Tr → Nat
  | .node _ ts => Tr.sizes ts + 1
noncomputable def Tr.sizes : List Tr → Nat
  | [] => 0
  | t :: ts => t.size + Tr.sizes ts
end
mutual
noncomputable def Tr.cost (rs : List RuleD) : Tr → Int
  | .node n ts => (ruleAt rs n).cost + Tr.costs rs ts
noncomputable def Tr.costs (rs : List RuleD) : List Tr → Int
  | [] => 0
  | t :: ts => t.cost rs + Tr.costs rs ts
end
theorem ruleAt_app {rs q : List RuleD} {n : Int} (h : (decide (n < 0) || decide ((rs.length : Int) ≤ n)) = false) : ruleAt (rs ++ q) n = ruleAt rs n ∧ (decide (n < 0) || decide (((rs ++ q).length : Int) ≤ n)) = false := by
  simp only [Bool.or_eq_false_iff, decide_eq_false_iff_not] at h
  have hlt : n.toNat < rs.length := by omega
  refine ⟨?_, ?_⟩
  · unfold ruleAt
    rw [List.getD_eq_getElem?_getD, List.getD_eq_getElem?_getD, List.getElem?_append_left hlt]
  · rw [List.length_append, Bool.or_eq_false_iff]
    exact ⟨decide_eq_false (by omega), decide_eq_false (by omega)⟩
mutual
theorem wf_app {rs q : List RuleD} : ∀ (t : Tr), t.wf rs → t.wf (rs ++ q)
  | .node n ts, h => by
    rw [Tr.wf] at h ⊢
    obtain ⟨h1, h2⟩ := ruleAt_app (q := q) h.1
    exact ⟨h2, by rw [h1]; exact h.2.1, wfs_app ts h.2.2⟩
theorem wfs_app {rs q : List RuleD} : ∀ (ts : List Tr), Tr.wfs rs ts → Tr.wfs (rs ++ q) ts
  | [], h => by rw [Tr.wfs]; trivial
  | t :: ts, h => by
    rw [Tr.wfs] at h ⊢
    exact ⟨wf_app t h.1, wfs_app ts h.2⟩
end
mutual
theorem mk_app {rs q : List RuleD} : ∀ (t : Tr) (pl : List Int), t.wf rs → mk (rs ++ q) t pl = mk rs t pl
  | .node n ts, pl, h => by
    rw [Tr.wf] at h
    rw [mk, mk, mks_app ts pl 0 h.2.2, (ruleAt_app h.1).1]
theorem mks_app {rs q : List RuleD} : ∀ (ts : List Tr) (pl : List Int) (k : Nat), Tr.wfs rs ts → mks (rs ++ q) ts pl k = mks rs ts pl k
  | [], pl, k, h => by rw [mks, mks]
  | t :: ts, pl, k, h => by
    rw [Tr.wfs] at h
    rw [mks, mks, mk_app t _ h.1, mks_app ts _ _ h.2]
end
mutual
theorem cost_app {rs q : List RuleD} : ∀ (t : Tr), t.wf rs → t.cost (rs ++ q) = t.cost rs
  | .node n ts, h => by
    rw [Tr.wf] at h
    rw [Tr.cost, Tr.cost, costs_app ts h.2.2, (ruleAt_app h.1).1]
theorem costs_app {rs q : List RuleD} : ∀ (ts : List Tr), Tr.wfs rs ts → Tr.costs (rs ++ q) ts = Tr.costs rs ts
  | [], h => by rw [Tr.costs, Tr.costs]
  | t :: ts, h => by
    rw [Tr.wfs] at h
    rw [Tr.costs, Tr.costs, cost_app t h.1, costs_app ts h.2]
end
theorem nfHead_app {rs q : List RuleD} {n : Int} {ar : Nat} {pl : List Int} {nm : Option Tx} (h : (decide (n < 0) || decide ((rs.length : Int) ≤ n)) = false) : nfHead (rs ++ q) n ar pl nm = nfHead rs n ar pl nm := by
  obtain ⟨h1, h2⟩ := ruleAt_app (q := q) h
  unfold nfHead
  rw [h1, h2, h]
mutual
theorem nf_app {rs q : List RuleD} : ∀ (t : Tr) (pl : List Int) (nm : Option Tx), t.wf rs → nf (rs ++ q) t pl nm = nf rs t pl nm
  | .node n ts, pl, nm, h => by
    rw [Tr.wf] at h
    rw [nf, nf, nfHead_app h.1, (ruleAt_app h.1).1, nfs_app ts pl 0 _ h.2.2]
theorem nfs_app {rs q : List RuleD} : ∀ (ts : List Tr) (pl : List Int) (k : Nat) (ps : List Tx), Tr.wfs rs ts → nfs (rs ++ q) ts pl k ps = nfs rs ts pl k ps
  | [], pl, k, ps, h => by rw [nfs, nfs]
  | t :: ts, pl, k, ps, h => by
    rw [Tr.wfs] at h
    rw [nfs, nfs, nf_app t _ _ h.1, nfs_app ts _ _ _ h.2]
end
structure StkGood (rs : List RuleD) (s : Stk) : Prop where
  wf : s.t.wf rs
  nm : ∀ pl, nf rs s.t pl (some s.n) = none
  no : ∀ pl, nf rs s.t pl none = none
  mkp : ∀ pl, mk rs s.t pl = .ok s.p
  cs : s.c = s.t.cost rs
  dp : s.deep = (s.t.dep : Int)
  sz : s.many = (s.t.size : Int)
theorem StkGood.app {rs q : List RuleD} {s : Stk} (h : StkGood rs s) : StkGood (rs ++ q) s := ⟨wf_app _ h.wf, fun pl => by rw [nf_app _ _ _ h.wf]; exact h.nm pl, fun pl => by rw [nf_app _ _ _ h.wf]; exact h.no pl, fun pl => by rw [mk_app _ _ h.wf]; exact h.mkp pl, by rw [cost_app _ h.wf]; exact h.cs, h.dp, h.sz⟩
theorem below_wfs {rs : List RuleD} : ∀ {below : List Stk}, (∀ s ∈ below, StkGood rs s) → Tr.wfs rs (below.map Stk.t)
  | [], _ => by rw [List.map_nil, Tr.wfs]; trivial
  | s :: r, h => by
    rw [List.map_cons, Tr.wfs]
    exact ⟨(h s (List.mem_cons_self ..)).wf, below_wfs fun x hx => h x (List.mem_cons_of_mem _ hx)⟩
theorem below_nfs {rs : List RuleD} : ∀ {below : List Stk} (pl : List Int) (k : Nat), (∀ s ∈ below, StkGood rs s) → nfs rs (below.map Stk.t) pl k (below.map Stk.n) = none
  | [], _, _, _ => by rw [List.map_nil, nfs]
  | s :: r, pl, k, h => by
    rw [List.map_cons, List.map_cons, nfs]
    have h1 := (h s (List.mem_cons_self ..)).nm (pl ++ [(k : Int)])
    show (match nf rs s.t _ (some s.n) with | some f => some f | none => nfs rs (r.map Stk.t) pl (k + 1) (r.map Stk.n)) = none
    rw [h1]
    exact below_nfs pl (k + 1) fun x hx => h x (List.mem_cons_of_mem _ hx)
theorem below_mks {rs : List RuleD} : ∀ {below : List Stk} (pl : List Int) (k : Nat), (∀ s ∈ below, StkGood rs s) → mks rs (below.map Stk.t) pl k = .ok (below.map Stk.p)
  | [], _, _, _ => by rw [List.map_nil, mks]; rfl
  | s :: r, pl, k, h => by
    rw [List.map_cons, mks]
    have h1 := (h s (List.mem_cons_self ..)).mkp (pl ++ [(k : Int)])
    rw [h1, below_mks pl (k + 1) fun x hx => h x (List.mem_cons_of_mem _ hx)]
    rfl
theorem below_costs {rs : List RuleD} : ∀ {below : List Stk}, (∀ s ∈ below, StkGood rs s) → Tr.costs rs (below.map Stk.t) = (below.map Stk.c).sum
  | [], _ => by rw [List.map_nil, Tr.costs]; rfl
  | s :: r, h => by
    rw [List.map_cons, Tr.costs, List.map_cons, List.sum_cons, below_costs fun x hx => h x (List.mem_cons_of_mem _ hx), (h s (List.mem_cons_self ..)).cs]
theorem below_sizes {rs : List RuleD} : ∀ {below : List Stk}, (∀ s ∈ below, StkGood rs s) → (Tr.sizes (below.map Stk.t) : Int) = (below.map Stk.many).sum
  | [], _ => by rw [List.map_nil, Tr.sizes]; rfl
  | s :: r, h => by
    have ih := below_sizes (rs := rs) (below := r) fun x hx => h x (List.mem_cons_of_mem _ hx)
    have h1 := (h s (List.mem_cons_self ..)).sz
    rw [List.map_cons, Tr.sizes, List.map_cons, List.sum_cons]
    omega
theorem stk_node {rs : List RuleD} {n : Int} {below : List Stk} {p : Pic} {c m d : Int} {r : RuleD} (hn : (decide (n < 0) || decide ((rs.length : Int) ≤ n)) = false) (hr : ruleAt rs n = r) (hb : ∀ s ∈ below, StkGood rs s) (hp : r.parts = below.map Stk.n) (hm : r.made (below.map Stk.p) = some p)
    (hc : c = r.cost + (below.map Stk.c).sum) (hmn : m = 1 + (below.map Stk.many).sum) (hd : d = 1 + (Tr.deps (below.map Stk.t) : Int)) : StkGood rs ⟨.node n (below.map Stk.t), r.name, p, c, m, d⟩ := by
  have hl : (below.map Stk.t).length = r.parts.length := by rw [hp, List.length_map, List.length_map]
  have hw : (Tr.node n (below.map Stk.t)).wf rs := by rw [Tr.wf, hr]; exact ⟨hn, hl, below_wfs hb⟩
  have hh : ∀ pl nm, nm = none ∨ nm = some r.name → nfHead rs n (below.map Stk.t).length pl nm = none := fun pl nm h => by
    unfold nfHead
    rw [hn, if_neg (by decide), hr, if_neg (by rw [hl]; exact fun z => z rfl), if_neg]
    rintro ⟨h1, h2⟩
    rcases h with rfl | rfl
    · cases h1
    · exact h2 rfl
  have hnf : ∀ pl nm, nm = none ∨ nm = some r.name → nf rs (.node n (below.map Stk.t)) pl nm = none := fun pl nm h => by
    rw [nf, hh pl nm h, hr, hp]
    exact below_nfs pl 0 hb
  refine ⟨hw, fun pl => hnf pl _ (.inr rfl), fun pl => hnf pl _ (.inl rfl), fun pl => ?_, ?_, ?_, ?_⟩
  · show mk rs (.node n (below.map Stk.t)) pl = _
    rw [mk, below_mks pl 0 hb, hr]
    dsimp only
    rw [hm]
  · show c = _
    rw [Tr.cost, hr, below_costs hb]; exact hc
  · show d = _
    rw [Tr.dep]; omega
  · show m = _
    rw [Tr.size]
    have := below_sizes hb
    omega
theorem made_ok {r : RuleD} {ps : List Pic} {p : Pic} (hg : r.good = true) (hl : ps.length = r.parts.length) (h : ∀ q ∈ ps, PicOk q) (e : r.made ps = some p) : PicOk p := by
  cases r with
  | cell n c s =>
    cases e
    simp only [RuleD.good, Bool.and_eq_true] at hg
    intro x hx
    rw [List.mem_singleton.mp hx]
    intro d hd
    have h1 := hg.1
    unfold signOk at h1
    simp only [Bool.and_eq_true, List.all_eq_true, decide_eq_true_eq] at h1
    have := small_lt d (h1.2 d hd)
    omega
  | beside n c a b =>
    obtain ⟨x, y, rfl⟩ := two_of hl
    simp only [RuleD.made] at e
    split at e
    · cases e
      exact PicOk.put (h _ (List.mem_cons_self ..)) (h _ (List.mem_cons_of_mem _ (List.mem_singleton.mpr rfl)))
    · cases e
  | above n c a b =>
    obtain ⟨x, y, rfl⟩ := two_of hl
    simp only [RuleD.made] at e
    split at e
    · cases e
      exact PicOk.put (h _ (List.mem_cons_self ..)) (h _ (List.mem_cons_of_mem _ (List.mem_singleton.mpr rfl)))
    · cases e
  | turn n c a t =>
    cases e
    match ps, hl with
    | [x], _ => exact PicOk.turned (h _ (List.mem_cons_self ..)) _
theorem Tr.size_eq (t : Tr) : t.size = Tr.sizes t.subs + 1 := by
  cases t with
  | node n ts => rw [Tr.size]; rfl
theorem Tr.dep_eq (t : Tr) : t.dep = Tr.deps t.subs + 1 := by
  cases t with
  | node n ts => rw [Tr.dep]; rfl
theorem Tr.deps_le {ts : List Tr} {d : Nat} (h : ∀ s ∈ ts, s.dep ≤ d) : Tr.deps ts ≤ d := by
  induction ts with
  | nil => rw [Tr.deps]; exact Nat.zero_le _
  | cons t ts ih =>
    rw [Tr.deps]
    exact Nat.max_le.mpr ⟨h t (List.mem_cons_self ..), ih fun s hs => h s (List.mem_cons_of_mem _ hs)⟩
theorem Tr.sizes_app (a b : List Tr) : Tr.sizes (a ++ b) = Tr.sizes a + Tr.sizes b := by
  induction a with
  | nil => rw [Tr.sizes]; simp
  | cons t a ih => rw [List.cons_append, Tr.sizes, Tr.sizes, ih]; omega
mutual
noncomputable def Tr.nums : Tr → List Int
  | .node n ts => n :: Tr.numss ts
noncomputable def Tr.numss : List Tr → List Int
  | [] => []
  | t :: ts => t.nums ++ Tr.numss ts
end
theorem Tr.nums_eq (t : Tr) : t.nums = t.num :: Tr.numss t.subs := by
  cases t with
  | node n ts => rw [Tr.nums]; rfl
theorem Tr.numss_app (a b : List Tr) : Tr.numss (a ++ b) = Tr.numss a ++ Tr.numss b := by
  induction a with
  | nil => rw [Tr.numss]; rfl
  | cons t a ih => rw [List.cons_append, Tr.numss, Tr.numss, ih, List.append_assoc]
mutual
theorem nums_len : ∀ t : Tr, t.nums.length = t.size
  | .node n ts => by rw [Tr.nums, Tr.size, List.length_cons, numss_len ts]
theorem numss_len : ∀ ts : List Tr, (Tr.numss ts).length = Tr.sizes ts
  | [] => by rw [Tr.numss, Tr.sizes]; rfl
  | t :: ts => by rw [Tr.numss, Tr.sizes, List.length_append, nums_len t, numss_len ts]
end
mutual
theorem nums_cost {rs : List RuleD} : ∀ t : Tr, (t.nums.map fun k => (ruleAt rs k).cost).sum = t.cost rs
  | .node n ts => by rw [Tr.nums, Tr.cost, List.map_cons, List.sum_cons, numss_cost ts]
theorem numss_cost {rs : List RuleD} : ∀ ts : List Tr, ((Tr.numss ts).map fun k => (ruleAt rs k).cost).sum = Tr.costs rs ts
  | [] => by rw [Tr.numss, Tr.costs]; rfl
  | t :: ts => by rw [Tr.numss, Tr.costs, List.map_append, List.sum_append, nums_cost t, numss_cost ts]
end
mutual
theorem nums_in {rs : List RuleD} : ∀ t : Tr, t.wf rs → ∀ k ∈ t.nums, (decide (k < 0) || decide ((rs.length : Int) ≤ k)) = false
  | .node n ts, h, k, hk => by
    rw [Tr.wf] at h
    rw [Tr.nums] at hk
    rcases List.mem_cons.mp hk with rfl | hk
    · exact h.1
    · exact numss_in ts h.2.2 k hk
theorem numss_in {rs : List RuleD} : ∀ ts : List Tr, Tr.wfs rs ts → ∀ k ∈ Tr.numss ts, (decide (k < 0) || decide ((rs.length : Int) ≤ k)) = false
  | [], h, k, hk => by rw [Tr.numss] at hk; cases hk
  | t :: ts, h, k, hk => by
    rw [Tr.wfs] at h
    rw [Tr.numss] at hk
    rcases List.mem_append.mp hk with hk | hk
    · exact nums_in t h.1 k hk
    · exact numss_in ts h.2 k hk
end
noncomputable def picOf (rs : List RuleD) (t : Tr) : Pic := match mk rs t [] with
  | .ok p => p
  | .error _ => []
theorem faultOf_none {rs : List RuleD} {t : Tr} (h : faultOf rs t = none) : nf rs t [] none = none ∧ mk rs t [] = .ok (picOf rs t) := by
  unfold faultOf at h
  split at h
  · cases h
  · rename_i h1
    refine ⟨h1, ?_⟩
    unfold picOf
    split at h
    · cases h
    · rename_i p h2
      rw [h2]
theorem faultOf_some {rs : List RuleD} {t : Tr} {f : Flt} (h : faultOf rs t = some f) : nf rs t [] none = some f ∨ (nf rs t [] none = none ∧ mk rs t [] = .error f) := by
  unfold faultOf at h
  split at h
  · cases h; exact .inl (by assumption)
  · rename_i h1
    split at h
    · cases h; exact .inr ⟨h1, by assumption⟩
    · cases h
theorem sizes_mem {s : Tr} : ∀ {ts : List Tr}, s ∈ ts → s.size ≤ Tr.sizes ts
  | t :: ts, h => by
    rw [Tr.sizes]
    rcases List.mem_cons.mp h with rfl | h
    · omega
    · have := sizes_mem h; omega
noncomputable def NoTree (f : Flt) : Exn := ⟨"NoTree", "why", vl f⟩
noncomputable def laidS : Tw.Spec := fun A P R => ∃ (g : GramD) (t : Tr), A = [vl g, vl t] ∧ t.dep ≤ 80 ∧ (∀ r ∈ g.rules, r.good = true) ∧ (faultOf g.rules t = none → P (rn (picOf g.rules t))) ∧ (∀ f, faultOf g.rules t = some f → R (NoTree f))
noncomputable def numsS (d : Nat) : Tw.Spec := fun A P _ => ∃ (t : Tr), A = [vl t] ∧ t.dep ≤ d ∧ t.size ≤ 900 ∧ P (rn t.nums)
noncomputable def costOfS : Tw.Spec := fun A P R => ∃ (g : GramD) (t : Tr), A = [vl g, vl t] ∧ t.dep ≤ 80 ∧ t.size ≤ 900 ∧ (∀ r ∈ g.rules, r.good = true) ∧ (faultOf g.rules t = none → P (rv (t.cost g.rules))) ∧ (∀ f, faultOf g.rules t = some f → R (NoTree f))
section
variable {P : Program} {w : World} {K : PySem.W.Frag} {mg : Str → Option Value} {base : Heap}
theorem ok_laid (T : Txt K mg) : Has P w K mg base 88 "laid" ["grammar", "tree"] laidS := by
  refine Has.ofX T.f_laid sc_laid (fun A Q R ⟨g, t, e, _⟩ => by rw [e]; rfl) fun f cdv A outer s0 H E hr Γ Q R ⟨g, t, e, hd, hg, q1, q2⟩ => ?_
  subst e
  cases hf : faultOf g.rules t with
  | none =>
    obtain ⟨h1, h2⟩ := faultOf_none hf
    refine st_unpackLN 2 3 (xs := picOf g.rules t) (ex_call (ok_looked_at T) (hr.mono (by decide)) (ea_cons (ev_var 0) (ea_cons (ev_var 1) ea_nil)) fun P' R' h => ⟨g, t, rfl, hd, hg, fun f e => (by rw [h1] at e; cases e), fun _ => ⟨fun p e => by rw [h2] at e; cases e; exact h _ rfl, fun f e => by (rw [h2] at e; cases e)⟩⟩) (fun l => ?_) (pg2 2 3 (pgn 2 sc_laid.nd) (pgn 3 sc_laid.nd))
    refine st_if (k := false) (et_cmp o_notU (ev_var (x := ()) 3) ev_non) (fun h => nomatch h) (fun _ => st_nil ?_)
    exact st_retL 2 (q1 hf)
  | some f =>
    have hs := faultOf_some hf
    refine st_unpack2 2 3 (i := repOpt) (j := repOpt) (x := ((none, some f) : MB)) (ev_of_ex (ex_call (ok_looked_at T) (hr.mono (by decide)) (ea_cons (ev_var 0) (ea_cons (ev_var 1) ea_nil)) fun P' R' h => ⟨g, t, rfl, hd, hg, fun f' e => ?_, fun e => ⟨fun p e2 => ?_, fun f' e2 => ?_⟩⟩)) ?_ (pg2 2 3 (pgn 2 sc_laid.nd) (pgn 3 sc_laid.nd))
    · rcases hs with h1 | ⟨h1, h2⟩
      · rw [h1] at e; cases e; exact h _ rfl
      · rw [h1] at e; cases e
    · rcases hs with h1 | ⟨h1, h2⟩
      · rw [h1] at e; cases e
      · rw [h2] at e2; cases e2
    · rcases hs with h1 | ⟨h1, h2⟩
      · rw [h1] at e; cases e
      · rw [h2] at e2; cases e2; exact h _ rfl
    refine st_if (k := true) (et_cmp (o_notO (α := Flt) (x := some f)) (ev_var 3) ev_non) (fun _ => ?_) (fun h => nomatch h)
    exact st_raise1 T.x_NoTree (init_NoTree T) (hr.mono (by decide)) (ev_un (x := f) (ev_var 3)) (q2 f hf)
theorem ok_numbers_in (T : Txt K mg) : ∀ d, Has P w K mg base (1 + d) "numbers_in" ["tree"] (numsS d) := by
  intro d
  induction d with
  | zero => exact Has.of (k := 0) T.f_numbers_in sc_numbers_in (fun A Q R ⟨t, e, _⟩ => by rw [e]; rfl) fun f cdv A outer s0 H E hr Γ Q R ⟨t, e, hd, _⟩ => absurd (Tr.dep_pos t) (by omega)
  | succ d ih =>
    refine Has.of (k := 1 + d) T.f_numbers_in sc_numbers_in (fun A Q R ⟨t, e, _⟩ => by rw [e]; rfl) fun f cdv A outer s0 H E hr Γ Q R ⟨t, e, hd, hz, hq⟩ => ?_
    subst e
    have hse := Tr.size_eq t
    refine st_setN 1 (xs := [t.num]) (en_lst (es_cons (ev_num (t := t) (ev_var 0) ev_int) es_nil)) (fun ad => ?_) sc_numbers_in.nd
    refine st_for (fun k Γ' => Le Γ' [vl t, .lst repInt ad (t.num :: Tr.numss (t.subs.take k)), .no]) (src_tup (ev_subs (t := t) (ev_var 0) ev_int)) (tg_name 2) (by rw [List.take_zero, Tr.numss]; exact Le.refl) (fun k s Γ' hk hP => ?_) (fun Γ' hP => ?_) (pgn 2 sc_numbers_in.nd)
    · have hk : t.subs[k]? = some s := hk
      have hsm := List.mem_of_getElem? hk
      have hds := Tr.dep_sub hsm
      have hzs := sizes_mem hsm
      have htk : t.subs.take (k + 1) = t.subs.take k ++ [s] := by rw [List.take_add_one, hk]; rfl
      have hl : (Tr.numss (t.subs.take (k + 1))).length ≤ Tr.sizes t.subs := by
        rw [numss_len]
        have : Tr.sizes t.subs = Tr.sizes (t.subs.take (k + 1)) + Tr.sizes (t.subs.drop (k + 1)) := by rw [← Tr.sizes_app, List.take_append_drop]
        omega
      rw [htk, Tr.numss_app, List.length_append] at hl
      have e1 : Tr.numss [s] = s.nums := by rw [Tr.numss, Tr.numss, List.append_nil]
      rw [e1] at hl
      refine st_le (Le.set hP 2 _) ?_
      refine st_extend 1 (ad := ad) (xs := t.num :: Tr.numss (t.subs.take k)) (ys := s.nums) (en_call ih (hr.mono (by omega)) (ea_cons (x := s) (ev_var 2) ea_nil) fun P' R' h => ⟨s, rfl, by omega, by omega, h⟩) (st_nil ?_) (sl_small (by rw [List.length_cons]; omega))
      rw [htk, Tr.numss_app, e1]
      exact le_cons (le_cons (le_no le_nil))
    · have hP : Le Γ' [vl t, .lst repInt ad (t.num :: Tr.numss (t.subs.take t.subs.length)), .no] := hP
      rw [List.take_length, ← Tr.nums_eq] at hP
      refine st_le hP ?_
      exact st_retL 1 hq
theorem ok_cost_of (T : Txt K mg) : Has P w K mg base 89 "cost_of" ["grammar", "tree"] costOfS := by
  refine Has.ofX T.f_cost_of sc_cost_of (fun A Q R ⟨g, t, e, _⟩ => by rw [e]; rfl) fun f cdv A outer s0 H E hr Γ Q R ⟨g, t, e, hd, hz, hg, q1, q2⟩ => ?_
  subst e
  cases hf : faultOf g.rules t with
  | none =>
    obtain ⟨h1, h2⟩ := faultOf_none hf
    have hw := nf_wf t [] none h1
    have hin := nums_in t hw
    refine st_drop (ex_call (P := fun _ => True) (ok_laid T) (hr.mono (by decide)) (ea_cons (ev_var 0) (ea_cons (ev_var 1) ea_nil)) fun P' R' h => ⟨g, t, rfl, hd, hg, fun _ => h _ trivial, fun f e => by (rw [hf] at e; cases e)⟩) ?_
    exact st_retV (ev_eq (ev_sum T.b_sum (ev_of_en (en_lc (α := Int) (β := Int) (own := [("k", 2)]) (f := fun k => (ruleAt g.rules k).cost) (src_list (ev_of_en (en_call (xs := t.nums) (ok_numbers_in T 80) (hr.mono (by decide)) (ea_cons (ev_var 1) ea_nil) fun P' R' h => ⟨t, rfl, hd, hz, h⟩))) (tg_name 2) (fun _ _ _ _ _ => pgn 2 sc_cost_of.nd) (fun k hk _ _ _ _ _ => ev_fld (x := ruleAt g.rules k) (y := (ruleAt g.rules k).cost) (o_cls T _) (a_cost T _) rfl (RuleD.f_cost _) (ev_of_ex (ex_of_exx (exx_meth (x := g) T.o_Grammar (ok_Grammar_rule T) (hr.mono (by decide)) rfl (lk rfl) (ev_var 0) (ea_cons (x := k) (ev_var 2) ea_nil) fun P' R' h _ => ⟨g, k, ruleAt g.rules k, rfl, (rule_at (hin k hk)).1, h _ rfl⟩)))) sc_cost_of.nd (ok := bk_cost_of (by decide +kernel)) (hz := sl_small (by rw [nums_len]; omega))))) (nums_cost t)) (q1 hf)
  | some f =>
    exact st_dropR (exx_call (R := fun y => y = NoTree f) (ok_laid T) (hr.mono (by decide)) (ea_cons (ev_var 0) (ea_cons (ev_var 1) ea_nil)) fun P' R' _ h => ⟨g, t, rfl, hd, hg, fun e => by (rw [hf] at e; cases e), fun f' e => h _ (by rw [hf] at e; cases e; rfl)⟩) fun y hy => by subst hy; exact q2 f hf
end
structure Sz3 where
  r : Int
  c : Int
  k : Int
noncomputable def Sz3.d (q : Sz3) : Dy := .t [.i q.r, .i q.c, .i q.k]
noncomputable instance repSz3 : Rep Sz3 := repOfD Sz3.d
noncomputable instance isdSz3 : IsD Sz3 := ⟨Sz3.d, Iff.rfl⟩
noncomputable abbrev Cf := Tx → Int → Int → Int → Int
noncomputable def sharesL (side : Bool) (r c left : Int) : List (Sz3 × Sz3) :=
  (rng 1 ((if side then c else r) - 1).toNat).flatMap fun a => (rng 1 (left - 1).toNat).map fun k => if side then (⟨r, a, k⟩, ⟨r, c - a, left - k⟩) else (⟨a, c, k⟩, ⟨r - a, c, left - k⟩)
noncomputable def mulS (g : Cf) (a b : Tx) (x : Sz3 × Sz3) : Int := g a x.1.r x.1.c x.1.k * g b x.2.r x.2.c x.2.k
noncomputable def cntR (g : Cf) (q : RuleD) (r c k : Int) : Int := match q with
  | .cell _ co _ => if k - co = 0 ∧ r = 1 ∧ c = 1 then 1 else 0
  | .turn _ co a t => if k - co < 1 then 0 else if t % 2 = 1 then g a c r (k - co) else g a r c (k - co)
  | .beside _ co a b => if k - co < 1 then 0 else ((sharesL true r c (k - co)).map (mulS g a b)).sum
  | .above _ co a b => if k - co < 1 then 0 else ((sharesL false r c (k - co)).map (mulS g a b)).sum
noncomputable def cntF (rs : List RuleD) : Nat → Cf
  | 0, _, _, _, _ => 0
  | f + 1, n, r, c, k => ((rs.filter fun q => decide (q.name = n)).map fun q => cntR (cntF rs f) q r c k).sum
noncomputable def cntT (rs : List RuleD) : Cf := fun n r c k => cntF rs k.toNat n r c k
structure ShIn (r c left : Int) (x : Sz3 × Sz3) : Prop where
  r1 : x.1.r ≤ r
  c1 : x.1.c ≤ c
  r2 : x.2.r ≤ r
  c2 : x.2.c ≤ c
  k1 : 1 ≤ x.1.k
  k2 : 1 ≤ x.2.k
  ks : x.1.k + x.2.k = left
  pos : 1 ≤ r → 1 ≤ c → 1 ≤ x.1.r ∧ 1 ≤ x.1.c ∧ 1 ≤ x.2.r ∧ 1 ≤ x.2.c
theorem shares_in {side : Bool} {r c left : Int} {x : Sz3 × Sz3} (h : x ∈ sharesL side r c left) : ShIn r c left x := by
  unfold sharesL at h
  obtain ⟨a, ha, h⟩ := List.mem_flatMap.mp h
  obtain ⟨k, hk, rfl⟩ := List.mem_map.mp h
  obtain ⟨i, hi, rfl⟩ := rng_mem ha
  obtain ⟨j, hj, rfl⟩ := rng_mem hk
  cases side with
  | true =>
    simp only [if_true] at hi ⊢
    exact ⟨by show r ≤ r; omega, by show 1 + (i : Int) ≤ c; omega, by show r ≤ r; omega, by show c - (1 + (i : Int)) ≤ c; omega, by show 1 ≤ 1 + (j : Int); omega, by show 1 ≤ left - (1 + (j : Int)); omega, by show 1 + (j : Int) + (left - (1 + (j : Int))) = left; omega, fun h1 h2 => ⟨by show 1 ≤ r; omega, by show 1 ≤ 1 + (i : Int); omega, by show 1 ≤ r; omega, by show 1 ≤ c - (1 + (i : Int)); omega⟩⟩
  | false =>
    simp only [Bool.false_eq_true, if_false] at hi ⊢
    exact ⟨by show 1 + (i : Int) ≤ r; omega, by show c ≤ c; omega, by show r - (1 + (i : Int)) ≤ r; omega, by show c ≤ c; omega, by show 1 ≤ 1 + (j : Int); omega, by show 1 ≤ left - (1 + (j : Int)); omega, by show 1 + (j : Int) + (left - (1 + (j : Int))) = left; omega, fun h1 h2 => ⟨by show 1 ≤ 1 + (i : Int); omega, by show 1 ≤ c; omega, by show 1 ≤ r - (1 + (i : Int)); omega, by show 1 ≤ c; omega⟩⟩
theorem cntR_congr {g g' : Cf} {q : RuleD} {r c k : Int} (hc : 1 ≤ q.cost) (h : ∀ n r' c' k', k' < k → g n r' c' k' = g' n r' c' k') : cntR g q r c k = cntR g' q r c k := by
  have hs : ∀ (side : Bool) (a b : Tx) (left : Int), left ≤ k - 1 → (sharesL side r c left).map (mulS g a b) = (sharesL side r c left).map (mulS g' a b) := fun side a b left hl => List.map_congr_left fun x hx => by
    have hi := shares_in hx
    have h1 := hi.k1
    have h2 := hi.k2
    have h3 := hi.ks
    unfold mulS
    rw [h _ _ _ _ (by omega : x.1.k < k), h _ _ _ _ (by omega : x.2.k < k)]
  cases q with
  | cell n co s => rfl
  | turn n co a t =>
    have hc : 1 ≤ co := hc
    simp only [cntR]
    rw [h a c r _ (by omega), h a r c _ (by omega)]
  | beside n co a b =>
    have hc : 1 ≤ co := hc
    simp only [cntR]
    rw [hs true a b _ (by omega)]
  | above n co a b =>
    have hc : 1 ≤ co := hc
    simp only [cntR]
    rw [hs false a b _ (by omega)]
theorem cntR_zero {g : Cf} {q : RuleD} {r c k : Int} (hc : 1 ≤ q.cost) (hk : k ≤ 0) : cntR g q r c k = 0 := by
  cases q with
  | cell n co s =>
    have hc : 1 ≤ co := hc
    exact if_neg (by omega)
  | turn n co a t =>
    have hc : 1 ≤ co := hc
    exact if_pos (by omega)
  | beside n co a b =>
    have hc : 1 ≤ co := hc
    exact if_pos (by omega)
  | above n co a b =>
    have hc : 1 ≤ co := hc
    exact if_pos (by omega)
theorem sum_zero {A : Type} {f : A → Int} : ∀ {l : List A}, (∀ x ∈ l, f x = 0) → (l.map f).sum = 0
  | [], _ => rfl
  | x :: l, h => by rw [List.map_cons, List.sum_cons, h x (List.mem_cons_self ..), sum_zero fun y hy => h y (List.mem_cons_of_mem _ hy)]; rfl
theorem cntF_zero {rs : List RuleD} (hc : ∀ q ∈ rs, 1 ≤ q.cost) : ∀ (f : Nat) (n : Tx) (r c k : Int), k ≤ 0 → cntF rs f n r c k = 0
  | 0, _, _, _, _, _ => rfl
  | f + 1, n, r, c, k, hk => sum_zero fun q hq => cntR_zero (hc q (List.mem_filter.mp hq).1) hk
theorem cntF_eq {rs : List RuleD} (hc : ∀ q ∈ rs, 1 ≤ q.cost) : ∀ (f f' : Nat) (n : Tx) (r c k : Int), k ≤ (f : Int) → k ≤ (f' : Int) → cntF rs f n r c k = cntF rs f' n r c k
  | 0, f', n, r, c, k, h1, h2 => by rw [cntF_zero hc 0 n r c k (by omega), cntF_zero hc f' n r c k (by omega)]
  | f + 1, 0, n, r, c, k, h1, h2 => by rw [cntF_zero hc 0 n r c k (by omega), cntF_zero hc (f + 1) n r c k (by omega)]
  | f + 1, f' + 1, n, r, c, k, h1, h2 => by
    rw [cntF, cntF]
    congr 1
    refine List.map_congr_left fun q hq => cntR_congr (hc q (List.mem_filter.mp hq).1) fun n' r' c' k' hk => ?_
    exact cntF_eq hc f f' n' r' c' k' (by omega) (by omega)
theorem cntT_eq {rs : List RuleD} (hc : ∀ q ∈ rs, 1 ≤ q.cost) (n : Tx) (r c k : Int) : cntT rs n r c k = ((rs.filter fun q => decide (q.name = n)).map fun q => cntR (cntT rs) q r c k).sum := by
  unfold cntT
  by_cases hk : k ≤ 0
  · rw [cntF_zero hc _ n r c k hk]
    exact (sum_zero fun q hq => cntR_zero (hc q (List.mem_filter.mp hq).1) hk).symm
  · obtain ⟨f, hf⟩ : ∃ f : Nat, k.toNat = f + 1 := ⟨k.toNat - 1, by omega⟩
    rw [hf, cntF]
    congr 1
    refine List.map_congr_left fun q hq => cntR_congr (hc q (List.mem_filter.mp hq).1) fun n' r' c' k' hk' => ?_
    exact cntF_eq hc f k'.toNat n' r' c' k' (by omega) (by omega)
theorem cntT_zero {rs : List RuleD} (hc : ∀ q ∈ rs, 1 ≤ q.cost) {n : Tx} {r c k : Int} (hk : k ≤ 0) : cntT rs n r c k = 0 := cntF_zero hc _ n r c k hk
theorem sum_bd {A : Type} {f : A → Int} {B : Int} (hB : 0 ≤ B) : ∀ {l : List A}, (∀ x ∈ l, 0 ≤ f x ∧ f x ≤ B) → 0 ≤ (l.map f).sum ∧ (l.map f).sum ≤ (l.length : Int) * B
  | [], _ => by simp
  | x :: l, h => by
    obtain ⟨h1, h2⟩ := h x (List.mem_cons_self ..)
    obtain ⟨h3, h4⟩ := sum_bd hB (l := l) fun y hy => h y (List.mem_cons_of_mem _ hy)
    rw [List.map_cons, List.sum_cons, List.length_cons]
    refine ⟨by omega, ?_⟩
    have : ((l.length + 1 : Nat) : Int) * B = (l.length : Int) * B + B := by
      rw [show ((l.length + 1 : Nat) : Int) = (l.length : Int) + 1 by omega, Int.add_mul, Int.one_mul]
    omega
theorem shares_len {side : Bool} {r c left : Int} (hr : r ≤ 8) (hc : c ≤ 8) (hl : left ≤ 40) : (sharesL side r c left).length ≤ 273 := by
  unfold sharesL
  rw [List.length_flatMap]
  have e : ((rng 1 ((if side then c else r) - 1).toNat).map fun a => ((rng 1 (left - 1).toNat).map fun k => if side then ((⟨r, a, k⟩, ⟨r, c - a, left - k⟩) : Sz3 × Sz3) else (⟨a, c, k⟩, ⟨r - a, c, left - k⟩)).length) = (rng 1 ((if side then c else r) - 1).toNat).map fun _ => (left - 1).toNat := List.map_congr_left fun a _ => by rw [List.length_map, rng_len]
  rw [e]
  have hz : ∀ (l : List Int) (m : Nat), (l.map fun _ => m).sum = l.length * m := fun l m => by
    induction l with
    | nil => simp
    | cons x l ih => rw [List.map_cons, List.sum_cons, ih, List.length_cons, Nat.succ_mul]; omega
  rw [hz, rng_len]
  have h1 : ((if side then c else r) - 1).toNat ≤ 7 := by cases side <;> simp <;> omega
  have h2 : (left - 1).toNat ≤ 39 := by omega
  exact Nat.le_trans (Nat.mul_le_mul h1 h2) (by decide)
theorem pow_add_i (a b : Nat) : (2 : Int) ^ (a + b) = 2 ^ a * 2 ^ b := Int.pow_add 2 a b
theorem pow_pos_i (a : Nat) : (0 : Int) < 2 ^ a := Int.pow_pos (by decide)
theorem pow_mono_i {a b : Nat} (h : a ≤ b) : (2 : Int) ^ a ≤ 2 ^ b := by
  obtain ⟨d, rfl⟩ := Nat.exists_eq_add_of_le h
  rw [pow_add_i]
  have h1 := pow_pos_i a
  have h2 := pow_pos_i d
  calc (2 : Int) ^ a = 2 ^ a * 1 := by rw [Int.mul_one]
    _ ≤ 2 ^ a * 2 ^ d := Int.mul_le_mul_of_nonneg_left (by omega) (by omega)
theorem cntF_bd {rs : List RuleD} (hc : ∀ q ∈ rs, 1 ≤ q.cost) (hl : rs.length ≤ 32) : ∀ (f : Nat) (n : Tx) (r c k : Int), r ≤ 8 → c ≤ 8 → k ≤ 40 → 0 ≤ cntF rs f n r c k ∧ cntF rs f n r c k ≤ 2 ^ (20 * k.toNat)
  | 0, n, r, c, k, _, _, _ => ⟨Int.le_refl _, Int.le_of_lt (pow_pos_i _)⟩
  | f + 1, n, r, c, k, hr, hcc, hk => by
    by_cases hk0 : k ≤ 0
    · rw [cntF_zero hc _ n r c k hk0]
      exact ⟨Int.le_refl _, Int.le_of_lt (pow_pos_i _)⟩
    rw [cntF]
    have hq : ∀ q ∈ rs.filter fun q => decide (q.name = n), 0 ≤ cntR (cntF rs f) q r c k ∧ cntR (cntF rs f) q r c k ≤ 2 ^ (20 * (k.toNat - 1) + 10) := fun q hq => by
      have hco := hc q (List.mem_filter.mp hq).1
      have hB := pow_pos_i (20 * (k.toNat - 1) + 10)
      have hsh : ∀ (side : Bool) (a b : Tx) (left : Int), left ≤ k - 1 → 0 ≤ ((sharesL side r c left).map (mulS (cntF rs f) a b)).sum ∧ ((sharesL side r c left).map (mulS (cntF rs f) a b)).sum ≤ 2 ^ (20 * (k.toNat - 1) + 10) := fun side a b left hleft => by
        have hp := pow_pos_i (20 * left.toNat)
        obtain ⟨s1, s2⟩ := sum_bd (f := mulS (cntF rs f) a b) (B := 2 ^ (20 * left.toNat)) (by omega) (l := sharesL side r c left) fun x hx => by
          have hi := shares_in hx
          have hi1 := hi.r1
          have hi2 := hi.c1
          have hi3 := hi.r2
          have hi4 := hi.c2
          have hi5 := hi.k1
          have hi6 := hi.k2
          have hi7 := hi.ks
          obtain ⟨a1, a2⟩ := cntF_bd hc hl f a x.1.r x.1.c x.1.k (by omega) (by omega) (by omega)
          obtain ⟨b1, b2⟩ := cntF_bd hc hl f b x.2.r x.2.c x.2.k (by omega) (by omega) (by omega)
          refine ⟨Int.mul_nonneg a1 b1, ?_⟩
          rw [show 20 * left.toNat = 20 * x.1.k.toNat + 20 * x.2.k.toNat by omega, pow_add_i]
          exact Int.mul_le_mul a2 b2 b1 (by have := pow_pos_i (20 * x.1.k.toNat); omega)
        refine ⟨s1, Int.le_trans s2 ?_⟩
        have hlen := shares_len (side := side) (r := r) (c := c) (left := left) hr hcc (by omega)
        calc ((sharesL side r c left).length : Int) * 2 ^ (20 * left.toNat) ≤ 2 ^ 10 * 2 ^ (20 * left.toNat) := Int.mul_le_mul_of_nonneg_right (by omega) (by omega)
          _ = 2 ^ (10 + 20 * left.toNat) := (pow_add_i _ _).symm
          _ ≤ 2 ^ (20 * (k.toNat - 1) + 10) := pow_mono_i (by omega)
      have g1 : ∀ (a : Tx) (r' c' left : Int), r' ≤ 8 → c' ≤ 8 → left ≤ k - 1 → 0 ≤ cntF rs f a r' c' left ∧ cntF rs f a r' c' left ≤ 2 ^ (20 * (k.toNat - 1) + 10) := fun a r' c' left h1 h2 h3 => by
        obtain ⟨a1, a2⟩ := cntF_bd hc hl f a r' c' left h1 h2 (by omega)
        exact ⟨a1, Int.le_trans a2 (pow_mono_i (by omega))⟩
      cases q with
      | cell n' co s =>
        simp only [cntR]
        split
        · exact ⟨by decide, by omega⟩
        · exact ⟨by decide, by omega⟩
      | turn n' co a t =>
        have hco : 1 ≤ co := hco
        simp only [cntR]
        split
        · exact ⟨by decide, by omega⟩
        · split
          · exact g1 a c r _ hcc hr (by omega)
          · exact g1 a r c _ hr hcc (by omega)
      | beside n' co a b =>
        have hco : 1 ≤ co := hco
        simp only [cntR]
        split
        · exact ⟨by decide, by omega⟩
        · exact hsh true a b _ (by omega)
      | above n' co a b =>
        have hco : 1 ≤ co := hco
        simp only [cntR]
        split
        · exact ⟨by decide, by omega⟩
        · exact hsh false a b _ (by omega)
    have hp := pow_pos_i (20 * (k.toNat - 1) + 10)
    obtain ⟨s1, s2⟩ := sum_bd (f := fun q => cntR (cntF rs f) q r c k) (B := 2 ^ (20 * (k.toNat - 1) + 10)) (by omega) hq
    refine ⟨s1, Int.le_trans s2 ?_⟩
    have hfl : (rs.filter fun q => decide (q.name = n)).length ≤ 32 := Nat.le_trans (List.length_filter_le ..) hl
    calc ((rs.filter fun q => decide (q.name = n)).length : Int) * 2 ^ (20 * (k.toNat - 1) + 10) ≤ 2 ^ 5 * 2 ^ (20 * (k.toNat - 1) + 10) := Int.mul_le_mul_of_nonneg_right (by omega) (by omega)
      _ = 2 ^ (5 + (20 * (k.toNat - 1) + 10)) := (pow_add_i _ _).symm
      _ ≤ 2 ^ (20 * k.toNat) := pow_mono_i (by omega)
theorem cnt_log {rs : List RuleD} (hc : ∀ q ∈ rs, 1 ≤ q.cost) (hl : rs.length ≤ 32) {n : Tx} {r c k : Int} (hr : r ≤ 8) (hcc : c ≤ 8) (hk : k ≤ 40) : (cntT rs n r c k).natAbs.log2 < 1000 := by
  obtain ⟨h1, h2⟩ := cntF_bd hc hl k.toNat n r c k hr hcc hk
  unfold cntT
  generalize cntF rs k.toNat n r c k = z at h1 h2
  by_cases hz : z.natAbs = 0
  · rw [hz]; decide
  · refine (Nat.log2_lt hz).mpr ?_
    have h3 : z < 2 ^ 1000 := Int.lt_of_le_of_lt h2 (by
      have := pow_mono_i (show 20 * k.toNat + 1 ≤ 1000 by omega)
      have e := pow_add_i (20 * k.toNat) 1
      have hp := pow_pos_i (20 * k.toNat)
      omega)
    have e : ((2 : Nat) ^ 1000 : Nat) = ((2 : Int) ^ 1000).toNat := by decide +kernel
    rw [e]
    omega
theorem mul_ok {rs : List RuleD} (hc : ∀ q ∈ rs, 1 ≤ q.cost) (hl : rs.length ≤ 32) {n n' : Tx} {r c k r' c' k' : Int} (h1 : r ≤ 8) (h2 : c ≤ 8) (h3 : k ≤ 40) (h4 : r' ≤ 8) (h5 : c' ≤ 8) (h6 : k' ≤ 40) : CMulW (cntT rs n r c k) (cntT rs n' r' c' k') := by
  have a := cnt_log hc hl (n := n) h1 h2 h3
  have b := cnt_log hc hl (n := n') h4 h5 h6
  unfold CMulW
  omega
section
variable {X : Cx} {Γ : List Slot} {pos p p2 : Pos} {e a b c : Expr} {q : Sz3} {kk : Nat}
theorem ev_sz0 (h : EV X Γ e q) (hi : EV X Γ b (0 : Int)) (hp : autoParam (PlainIx b) Tw.aIR2) : EV X Γ (.Subscript e b pos) q.r := ev_ixY (α := Sz3) (β := Int) h hi rfl (atI_nat (j := 0) rfl) hp
theorem ev_sz1 (h : EV X Γ e q) (hi : EV X Γ b (1 : Int)) (hp : autoParam (PlainIx b) Tw.aIR2) : EV X Γ (.Subscript e b pos) q.c := ev_ixY (α := Sz3) (β := Int) h hi rfl (atI_nat (j := 1) rfl) hp
theorem ev_sz2 (h : EV X Γ e q) (hi : EV X Γ b (2 : Int)) (hp : autoParam (PlainIx b) Tw.aIR2) : EV X Γ (.Subscript e b pos) q.k := ev_ixY (α := Sz3) (β := Int) h hi rfl (atI_nat (j := 2) rfl) hp
theorem ev_sz3 {x y z : Int} (h : EV X Γ e (Tup.mk [Dy.i x, Dy.i y, Dy.i z])) : EV X Γ e (Sz3.mk x y z) := ev_u (α := Sz3) (x := ⟨x, y, z⟩) (ev_ot h)
theorem o_mulW {x y : Int} (h : CMulW x y) : OB X (binaryOp .Mult) x y (x * y) := ob_I op_mulW h
end
noncomputable def BoxK (g : GramD) (x : Key4) : Prop := x.n ∈ g.names ∧ 1 ≤ x.r ∧ x.r ≤ 8 ∧ 1 ≤ x.c ∧ x.c ≤ 8 ∧ 1 ≤ x.k ∧ x.k ≤ 40
structure Kept (g : GramD) (l : List (Key4 × Int)) : Prop where
  val : ∀ x v, look l x = some v → v = cntT g.rules x.n x.r x.c x.k
  nd : (l.map (·.1)).Nodup
  box : ∀ x ∈ l.map (·.1), BoxK g x
theorem Kept.nil {g : GramD} : Kept g [] := ⟨fun x v h => (by rw [look_nil] at h; cases h), List.nodup_nil, fun x h => (List.not_mem_nil h).elim⟩
theorem Kept.put {g : GramD} {l : List (Key4 × Int)} {x : Key4} (h : Kept g l) (hx : BoxK g x) : Kept g (put l x (cntT g.rules x.n x.r x.c x.k)) := by
  refine ⟨fun y v hv => ?_, put_nodup h.nd, fun y hy => ?_⟩
  · rw [look_put] at hv
    split at hv
    · rename_i e
      subst e
      exact (Option.some.inj hv).symm
    · exact h.val y v hv
  · rw [put_keys] at hy
    split at hy
    · exact h.box y hy
    · rcases List.mem_append.mp hy with hy | hy
      · exact h.box y hy
      · rw [List.mem_singleton.mp hy]; exact hx
theorem nodup_le4 {A : Type} [DecidableEq A] {l : List A} : ∀ {m : List A}, l.Nodup → (∀ x ∈ l, x ∈ m) → l.length ≤ m.length := by
  induction l with
  | nil => intro m _ _; exact Nat.zero_le _
  | cons x l ih =>
    intro m hn h
    rw [List.nodup_cons] at hn
    have hx := h x (List.mem_cons_self ..)
    have := ih (m := m.erase x) hn.2 fun y hy => (List.mem_erase_of_ne (fun e => hn.1 (by rw [← e]; exact hy))).mpr (h y (List.mem_cons_of_mem _ hy))
    rw [List.length_erase_of_mem hx] at this
    have := List.length_pos_of_mem hx
    rw [List.length_cons]
    omega
theorem Kept.len {g : GramD} {l : List (Key4 × Int)} (h : Kept g l) (hn : g.names.length ≤ 8) : l.length < sizeLine := by
  have hm : ∀ x ∈ l.map (·.1), x ∈ g.names.flatMap fun n => (rng 1 8).flatMap fun r => (rng 1 8).flatMap fun c => (rng 1 40).map fun k => (⟨n, r, c, k⟩ : Key4) := fun x hx => by
    obtain ⟨h1, h2, h3, h4, h5, h6, h7⟩ := h.box x hx
    have hr : ∀ (z : Int) (m : Nat), 1 ≤ z → z ≤ (m : Int) → z ∈ rng 1 m := fun z m a b => by
      unfold rng
      exact List.mem_map.mpr ⟨(z - 1).toNat, List.mem_range.mpr (by omega), by omega⟩
    refine List.mem_flatMap.mpr ⟨x.n, h1, List.mem_flatMap.mpr ⟨x.r, hr _ 8 h2 h3, List.mem_flatMap.mpr ⟨x.c, hr _ 8 h4 h5, List.mem_map.mpr ⟨x.k, hr _ 40 h6 h7, rfl⟩⟩⟩⟩
  have := nodup_le4 h.nd hm
  rw [List.length_map] at this
  have hz : ∀ {A B : Type} (l : List A) (f : A → List B) (m : Nat), (∀ x, (f x).length = m) → (l.flatMap f).length = l.length * m := fun l f m hf => by
    induction l with
    | nil => simp
    | cons x l ih => rw [List.flatMap_cons, List.length_append, ih, hf, List.length_cons, Nat.succ_mul]; omega
  rw [hz _ _ (8 * (8 * 40)) fun n => by rw [hz _ _ (8 * 40) fun r => by rw [hz _ _ 40 fun c => by rw [List.length_map, rng_len], rng_len], rng_len]] at this
  refine lt_mid ?_
  omega
theorem made_cost {g : GramD} (h : g.Made) : ∀ q ∈ g.rules, 1 ≤ q.cost := fun q hq => (RuleD.bounds (h.rs q hq)).2.1
theorem made_names {g : GramD} (h : g.Made) {q : RuleD} (hq : q ∈ g.rules) : ∀ a ∈ q.parts, a ∈ g.names := fun a ha => by
  rw [h.ok.nm]
  exact metAll_mem.mpr (.inr ⟨q, hq, List.mem_cons_of_mem _ ha⟩)
theorem nums_rules {rs : List RuleD} {n : Tx} : ((enumL rs).filter fun x => decide (x.2.name = n)).map (·.2) = rs.filter fun q => decide (q.name = n) := by
  have e : (enumL rs).map (·.2) = rs := by unfold enumL; rw [List.map_map]; show List.map (fun p => p.1) rs.zipIdx = rs; simp
  conv => rhs; rw [← e]
  rw [List.filter_map]; rfl
theorem nums_at {rs : List RuleD} {n : Tx} {m : Nat} {i : Int} (h : (numbersL n rs)[m]? = some i) : ∃ q, atI rs i = some q ∧ q ∈ rs ∧ (rs.filter fun q => decide (q.name = n))[m]? = some q := by
  unfold numbersL at h
  rw [List.getElem?_map] at h
  obtain ⟨x, hx, rfl⟩ := Option.map_eq_some_iff.mp h
  have hm := (List.mem_filter.mp (List.mem_of_getElem? hx)).1
  obtain ⟨k, hk, e⟩ := List.getElem_of_mem hm
  obtain ⟨h1, h2⟩ := enumL_get (xs := rs) (k := k) (by rw [List.getElem?_eq_getElem hk, e])
  refine ⟨x.2, by rw [h1]; exact atI_nat h2, List.mem_of_getElem? h2, ?_⟩
  rw [← nums_rules, List.getElem?_map, hx]; rfl
theorem numb_len {rs : List RuleD} {n : Tx} : (numbersL n rs).length = (rs.filter fun q => decide (q.name = n)).length := by
  rw [← nums_rules]
  unfold numbersL
  rw [List.length_map, List.length_map]
theorem take_sum {A : Type} {f : A → Int} {l : List A} {m : Nat} {x : A} (h : l[m]? = some x) : ((l.take (m + 1)).map f).sum = ((l.take m).map f).sum + f x := by
  rw [List.take_add_one, h, List.map_append, List.sum_append_int]
  simp
noncomputable abbrev cO (C a dx da : Addr) (g : GramD) (l : List (Key4 × Int)) : Own := ownC (i := repInst) (j := repInt) "grammar" "kept" C a dx da g l
noncomputable def sharesS : Tw.Spec := fun A P _ => ∃ (q : RuleD) (r c left : Int), A = [vl q, vl r, vl c, vl left] ∧ r ≤ 8 ∧ c ≤ 8 ∧ left ≤ 40 ∧ -100 ≤ r ∧ -100 ≤ c ∧ -100 ≤ left ∧ q.parts.length = 2 ∧ (∀ n co a b, q = .beside n co a b → P (rn (sharesL true r c left))) ∧ (∀ n co a b, q = .above n co a b → P (rn (sharesL false r c left)))
noncomputable def befS : Tw.Spec := fun A P _ => ∃ (n : Tx) (co : Int) (a : Tx) (t r c : Int), A = [vl (RuleD.turn n co a t), vl r, vl c] ∧ P (rv ((if t % 2 = 1 then (c, r) else (r, c)) : Int × Int))
noncomputable def cinitK (K : PySem.W.Frag) : Tw.Spec := fun A P _ => ∃ (C a dx : Addr) (g : GramD), A = [.own (ownI C a dx []), vl g] ∧ PySem.W.nsIn K mainGlobals "Counter" = some (some (.ref C)) ∧ (∀ da, P (.chg repUnit () [cO C a dx da g []]))
noncomputable def countS (K : PySem.W.Frag) (d : Nat) : Tw.Spec := fun A P _ => ∃ (C a dx da : Addr) (g : GramD) (l : List (Key4 × Int)) (n : Tx) (r c k : Int), A = [.own (cO C a dx da g l), vl n, vl r, vl c, vl k] ∧ PySem.W.nsIn K mainGlobals "Counter" = some (some (.ref C)) ∧ g.Made ∧ Kept g l ∧ BoxK g ⟨n, r, c, k⟩ ∧ k ≤ (d : Int) ∧
  ∀ l', Kept g l' → P (.chg repInt (cntT g.rules n r c k) [cO C a dx da g l'])
noncomputable def cshareS (K : PySem.W.Frag) (d : Nat) : Tw.Spec := fun A P _ => ∃ (C a dx da : Addr) (g : GramD) (l : List (Key4 × Int)) (q : RuleD) (s : Bool) (u v : Tx) (x : Sz3 × Sz3), A = [.own (cO C a dx da g l), vl q, vl x.1, vl x.2] ∧ PySem.W.nsIn K mainGlobals "Counter" = some (some (.ref C)) ∧ g.Made ∧ Kept g l ∧ (q = .beside q.name q.cost u v ∨ q = .above q.name q.cost u v) ∧ BoxK g ⟨u, x.1.r, x.1.c, x.1.k⟩ ∧ BoxK g ⟨v, x.2.r, x.2.c, x.2.k⟩ ∧ x.1.k ≤ (d : Int) ∧ x.2.k ≤ (d : Int) ∧
  ∀ l' (y : Int × Int), Kept g l' → y.1 * y.2 = mulS (cntT g.rules) u v x → CMulW y.1 y.2 → (cntT g.rules u x.1.r x.1.c x.1.k ≠ 0 → y = (cntT g.rules u x.1.r x.1.c x.1.k, cntT g.rules v x.2.r x.2.c x.2.k)) → P (.chg repPair y [cO C a dx da g l'])
noncomputable def cruleS (K : PySem.W.Frag) (d : Nat) : Tw.Spec := fun A P _ => ∃ (C a dx da : Addr) (g : GramD) (l : List (Key4 × Int)) (q : RuleD) (r c k : Int), A = [.own (cO C a dx da g l), vl q, vl r, vl c, vl k] ∧ PySem.W.nsIn K mainGlobals "Counter" = some (some (.ref C)) ∧ g.Made ∧ Kept g l ∧ q ∈ g.rules ∧ 1 ≤ r ∧ r ≤ 8 ∧ 1 ≤ c ∧ c ≤ 8 ∧ 1 ≤ k ∧ k ≤ 40 ∧ k ≤ (d : Int) + 1 ∧
  ∀ l', Kept g l' → P (.chg repInt (cntR (cntT g.rules) q r c k) [cO C a dx da g l'])
section
variable {P : Program} {w : World} {K : PySem.W.Frag} {mg : Str → Option Value} {base : Heap}
theorem ok_shares (T : Txt K mg) : Has P w K mg base 1 "shares" ["rule", "rows", "columns", "left"] sharesS := by
  refine Has.of (k := 0) T.f_shares sc_shares (fun A Q R ⟨q, r, c, left, e, _⟩ => by rw [e]; rfl) fun f cdv A outer s0 H E hr Γ Q R ⟨q, r, c, left, e, hr8, hc8, hl40, hr0, hc0, hl0, h2p, q1, q2⟩ => ?_
  subst e
  refine st_setN 4 (xs := ([] : List (Sz3 × Sz3))) (en_nil (Sz3 × Sz3)) (fun ad => ?_) sc_shares.nd
  have hfl : ∀ (f : Int → List (Sz3 × Sz3)) (l : List Int) (m : Nat), (∀ x, (f x).length = (left - 1).toNat) → m ≤ 7 → ((l.take m).flatMap f).length ≤ 273 := fun f l m hf hm => by
    have hz : ∀ l : List Int, (l.flatMap f).length = l.length * (left - 1).toNat := fun l => by
      induction l with
      | nil => simp
      | cons x l ih => rw [List.flatMap_cons, List.length_append, ih, hf, List.length_cons, Nat.succ_mul]; omega
    rw [hz]
    have h1 : (l.take m).length ≤ 7 := by rw [List.length_take]; omega
    have h2 : (left - 1).toNat ≤ 39 := by omega
    exact Nat.le_trans (Nat.mul_le_mul h1 h2) (by decide)
  cases q with
  | cell n co s => cases h2p
  | turn n co a t => cases h2p
  | beside n co a b =>
    refine st_if (k := true) (et_val (ev_isiI T.b_isinstance T.o_BesideRule T.o_BesideRule T.u_BesideRule_BesideRule rfl (ev_var 0))) (fun _ => ?_) (fun h => nomatch h)
    refine st_for (fun m Γ' => Le Γ' [vl (RuleD.beside n co a b), vl r, vl c, vl left, .lst repPair ad (((rng 1 (c - 1).toNat).take m).flatMap fun a => (rng 1 (left - 1).toNat).map fun k => ((⟨r, a, k⟩, ⟨r, c - a, left - k⟩) : Sz3 × Sz3)), .no, .no]) (src_range2 T.b_range ev_int (ev_var 2) ⟨by decide, by decide, by omega, by omega⟩) (tg_name 5) Le.refl (fun m x Γ' hm le => ?_) (fun Γ' le => ?_) (pgn 5 sc_shares.nd)
    · have hml := (List.getElem?_eq_some_iff.mp hm).1
      rw [rng_len] at hml
      refine st_le (Le.set le 5 _) ?_
      refine st_for (fun i Γ' => Le Γ' [vl (RuleD.beside n co a b), vl r, vl c, vl left, .lst repPair ad ((((rng 1 (c - 1).toNat).take m).flatMap fun a => (rng 1 (left - 1).toNat).map fun k => ((⟨r, a, k⟩, ⟨r, c - a, left - k⟩) : Sz3 × Sz3)) ++ ((rng 1 (left - 1).toNat).take i).map fun k => ((⟨r, x, k⟩, ⟨r, c - x, left - k⟩) : Sz3 × Sz3)), vl x, .no]) (src_range2 T.b_range ev_int (ev_var 3) ⟨by decide, by decide, by omega, by omega⟩) (tg_name 6) (by rw [List.take_zero, List.map_nil, List.append_nil]; exact Le.refl) (fun i y Γ' hi le => ?_) (fun Γ' le => ?_) (pgn 6 sc_shares.nd)
      · have hil := (List.getElem?_eq_some_iff.mp hi).1
        rw [rng_len] at hil
        refine st_le (Le.set le 6 _) ?_
        refine st_append 4 (x := ((⟨r, x, y⟩, ⟨r, c - x, left - y⟩) : Sz3 × Sz3)) (ev_pair (ev_sz3 (ev_tupH (es_cons (ev_d (α := Int) (ev_var 1)) (es_cons (ev_d (α := Int) (ev_var 5)) (es_cons (ev_d (α := Int) (ev_var 6)) es_nil))))) (ev_sz3 (ev_tupH (es_cons (ev_d (α := Int) (ev_var 1)) (es_cons (ev_d (α := Int) (x := c - x) (ev_bin o_sub (ev_var 2) (ev_var 5))) (es_cons (ev_d (α := Int) (x := left - y) (ev_bin o_sub (ev_var 3) (ev_var 6))) es_nil)))))) (st_nil ?_) ?_
        · rw [List.take_add_one, hi, List.map_append, ← List.append_assoc]
          exact le_cons (le_cons (le_cons (le_cons (le_cons (le_cons (le_no le_nil))))))
        · have := hfl (fun a => (rng 1 (left - 1).toNat).map fun k => ((⟨r, a, k⟩, ⟨r, c - a, left - k⟩) : Sz3 × Sz3)) (rng 1 (c - 1).toNat) m (fun a => by rw [List.length_map, rng_len]) (by omega)
          refine lt_mid ?_
          rw [List.length_append, List.length_map, List.length_take]
          omega
      · refine st_le le (st_nil ?_)
        rw [List.take_length, List.take_add_one, hm, List.flatMap_append, Option.toList_some, List.flatMap_singleton]
        exact le_cons (le_cons (le_cons (le_cons (le_cons (le_no (le_no le_nil))))))
    · refine st_le le ?_
      rw [List.take_length]
      exact st_retL 4 (q1 n co a b rfl)
  | above n co a b =>
    refine st_if (k := false) (et_val (ev_isiI T.b_isinstance T.o_AboveRule T.o_BesideRule T.u_AboveRule_BesideRule rfl (ev_var 0))) (fun h => nomatch h) (fun _ => st_nil ?_)
    refine st_for (fun m Γ' => Le Γ' [vl (RuleD.above n co a b), vl r, vl c, vl left, .lst repPair ad (((rng 1 (r - 1).toNat).take m).flatMap fun a => (rng 1 (left - 1).toNat).map fun k => ((⟨a, c, k⟩, ⟨r - a, c, left - k⟩) : Sz3 × Sz3)), .no, .no]) (src_range2 T.b_range ev_int (ev_var 1) ⟨by decide, by decide, by omega, by omega⟩) (tg_name 5) Le.refl (fun m x Γ' hm le => ?_) (fun Γ' le => ?_) (pgn 5 sc_shares.nd)
    · have hml := (List.getElem?_eq_some_iff.mp hm).1
      rw [rng_len] at hml
      refine st_le (Le.set le 5 _) ?_
      refine st_for (fun i Γ' => Le Γ' [vl (RuleD.above n co a b), vl r, vl c, vl left, .lst repPair ad ((((rng 1 (r - 1).toNat).take m).flatMap fun a => (rng 1 (left - 1).toNat).map fun k => ((⟨a, c, k⟩, ⟨r - a, c, left - k⟩) : Sz3 × Sz3)) ++ ((rng 1 (left - 1).toNat).take i).map fun k => ((⟨x, c, k⟩, ⟨r - x, c, left - k⟩) : Sz3 × Sz3)), vl x, .no]) (src_range2 T.b_range ev_int (ev_var 3) ⟨by decide, by decide, by omega, by omega⟩) (tg_name 6) (by rw [List.take_zero, List.map_nil, List.append_nil]; exact Le.refl) (fun i y Γ' hi le => ?_) (fun Γ' le => ?_) (pgn 6 sc_shares.nd)
      · have hil := (List.getElem?_eq_some_iff.mp hi).1
        rw [rng_len] at hil
        refine st_le (Le.set le 6 _) ?_
        refine st_append 4 (x := ((⟨x, c, y⟩, ⟨r - x, c, left - y⟩) : Sz3 × Sz3)) (ev_pair (ev_sz3 (ev_tupH (es_cons (ev_d (α := Int) (ev_var 5)) (es_cons (ev_d (α := Int) (ev_var 2)) (es_cons (ev_d (α := Int) (ev_var 6)) es_nil))))) (ev_sz3 (ev_tupH (es_cons (ev_d (α := Int) (x := r - x) (ev_bin o_sub (ev_var 1) (ev_var 5))) (es_cons (ev_d (α := Int) (ev_var 2)) (es_cons (ev_d (α := Int) (x := left - y) (ev_bin o_sub (ev_var 3) (ev_var 6))) es_nil)))))) (st_nil ?_) ?_
        · rw [List.take_add_one, hi, List.map_append, ← List.append_assoc]
          exact le_cons (le_cons (le_cons (le_cons (le_cons (le_cons (le_no le_nil))))))
        · have := hfl (fun a => (rng 1 (left - 1).toNat).map fun k => ((⟨a, c, k⟩, ⟨r - a, c, left - k⟩) : Sz3 × Sz3)) (rng 1 (r - 1).toNat) m (fun a => by rw [List.length_map, rng_len]) (by omega)
          refine lt_mid ?_
          rw [List.length_append, List.length_map, List.length_take]
          omega
      · refine st_le le (st_nil ?_)
        rw [List.take_length, List.take_add_one, hm, List.flatMap_append, Option.toList_some, List.flatMap_singleton]
        exact le_cons (le_cons (le_cons (le_cons (le_cons (le_no (le_no le_nil))))))
    · refine st_le le ?_
      rw [List.take_length]
      exact st_retL 4 (q2 n co a b rfl)
theorem ok_before_turning (T : Txt K mg) : Has P w K mg base 1 "before_turning" ["rule", "rows", "columns"] befS := by
  refine Has.of (k := 0) T.f_before_turning sc_before_turning (fun A Q R ⟨n, co, a, t, r, c, e, _⟩ => by rw [e]; rfl) fun f cdv A outer s0 H E hr Γ Q R ⟨n, co, a, t, r, c, e, hq⟩ => ?_
  subst e
  refine st_if (et_cmp o_eq (ev_bin (o_mod (by decide)) (ev_fld (x := RuleD.turn n co a t) (y := t) T.o_TurnRule T.a_TurnRule_turning rfl rfl (ev_var 0)) ev_int) ev_int) (fun h => ?_) (fun h => st_nil ?_)
  · rw [if_pos (of_decide_eq_true h)] at hq
    exact st_retV (ev_pair (ev_var 2) (ev_var 1)) hq
  · rw [if_neg (of_decide_eq_false h)] at hq
    exact st_retV (ev_pair (ev_var 1) (ev_var 2)) hq
theorem ok_Counter_init (T : Txt K mg) : HasM P w K mg base 1 "Counter" "__init__" ["self", "grammar"] (cinitK K) := by
  refine HasM.ofI (k := 0) T.m_Counter_init sc_Counter_init (fun A Q R ⟨C, a, dx, g, e, _⟩ => by rw [e]; rfl) fun f cdv A outer s0 H E hr Γ Q R ⟨C, a, dx, g, e, hC, hq⟩ => ⟨ownI C a dx [], ?_⟩
  subst e
  obtain ⟨C', kC, gC⟩ := T.o_Counter
  obtain rfl := ns_one kC.ns hC
  refine st_setF 0 (fs := []) (x := g) (ev_var 1) ?_ kC.cl (T.a_Counter_grammar _ hC) rfl
  refine st_cinit 0 (f1 := "grammar") (f2 := "kept") (x := g) Key4 repInt (fun da => st_nil ?_) (by decide) kC.cl (T.a_Counter_kept _ hC)
  exact ⟨cO C a dx da g [], rfl, rfl, hq da⟩
end
section
variable {P : Program} {w : World} {K : PySem.W.Frag} {mg : Str → Option Value} {base : Heap}
theorem ok_of_shares (T : Txt K mg) {d lv : Nat} (N : HasM P w K mg base lv "Counter" "of_name" ["self", "name", "rows", "columns", "cost"] (countS K d)) : HasM P w K mg base (lv + 1) "Counter" "of_shares" ["self", "rule", "one", "other"] (cshareS K d) := by
  refine HasM.of T.m_Counter_of_shares sc_Counter_of_shares (fun A Q R ⟨C, a, dx, da, g, l, q, s, u, v, x, e, _⟩ => by rw [e]; rfl) fun f cdv A outer s0 H E hr Γ Q R ⟨C, a, dx, da, g, l, q, s, u, v, x, e, hC, hg, hk, hq2, b1, b2, d1, d2, hq⟩ => ?_
  subst e
  have hcost := made_cost hg
  have hmany : g.rules.length ≤ 32 := by have := hg.ok.many; omega
  obtain ⟨_, p1, p2, p3, p4, p5, p6⟩ := id b1
  obtain ⟨_, o1, o2, o3, o4, o5, o6⟩ := id b2
  refine st_setGE 4 (i := repInt) (G := fun z Γ' => ∃ l', Kept g l' ∧ z = cntT g.rules u x.1.r x.1.c x.1.k ∧ Γ' = [.own (cO C a dx da g l'), vl q, vl x.1, vl x.2, .no]) (eg_methC 0 (lr := repInt) (m := "of_name") (G := fun z o => ∃ l', Kept g l' ∧ z = cntT g.rules u x.1.r x.1.c x.1.k ∧ o = cO C a dx da g l') T.o_Counter N (hr.mono (by omega)) hC (by decide) (by decide) (ea_cons (x := u) ?_ (ea_cons (ev_sz0 (q := x.1) (ev_var 2) ev_int) (ea_cons (ev_sz1 (q := x.1) (ev_var 2) ev_int) (ea_cons (ev_sz2 (q := x.1) (ev_var 2) ev_int) ea_nil)))) rfl rfl (fun _ _ ⟨l', _, _, e⟩ => by rw [e]; rfl) (fun z o ⟨l', h1, h2, h3⟩ => ⟨z, ⟨l', h1, h2, by rw [h3]; rfl⟩, rfl⟩) fun P' R' h _ => ⟨C, a, dx, da, g, l, u, _, _, _, rfl, hC, hg, hk, b1, d1, fun l' hl' => h _ _ ⟨l', hl', rfl, rfl⟩⟩) (fun z Γ' hz => ?_) sc_Counter_of_shares.nd
  · rcases hq2 with e | e
    · rw [e]; exact ev_fld (x := RuleD.beside q.name q.cost u v) (y := u) T.o_BesideRule T.a_BesideRule_one rfl rfl (ev_var 1)
    · rw [e]; exact ev_fld (x := RuleD.above q.name q.cost u v) (y := u) T.o_AboveRule T.a_AboveRule_one rfl rfl (ev_var 1)
  obtain ⟨l', hl', rfl, rfl⟩ := hz
  refine st_if (k := decide (cntT g.rules u x.1.r x.1.c x.1.k = 0)) (et_cmp o_eq (ev_var 4) ev_int) (fun h => ?_) (fun h => st_nil ?_)
  · have h := of_decide_eq_true h
    exact st_retC 0 (x := (((0 : Int), (0 : Int)) : Int × Int)) (ev_pair ev_int ev_int) (hq l' ((0 : Int), (0 : Int)) hl' (by unfold mulS; rw [h]; simp) (by unfold CMulW; decide) fun z => absurd h z)
  · refine st_retGC 0 (l' := repPair) (G := fun (z : Int × Int) o => ∃ l2, Kept g l2 ∧ z = (cntT g.rules u x.1.r x.1.c x.1.k, cntT g.rules v x.2.r x.2.c x.2.k) ∧ o = cO C a dx da g l2) (eg_imp (eg_pairR (i' := repInt) (j' := repInt) (N := fun z Γ' => ∃ l2, Kept g l2 ∧ z = cntT g.rules v x.2.r x.2.c x.2.k ∧ Γ' = [.own (cO C a dx da g l2), vl q, vl x.1, vl x.2, vl (cntT g.rules u x.1.r x.1.c x.1.k)]) (ev_var (x := cntT g.rules u x.1.r x.1.c x.1.k) 4) (eg_methC 0 (lr := repInt) (m := "of_name") (G := fun z o => ∃ l', Kept g l' ∧ z = cntT g.rules v x.2.r x.2.c x.2.k ∧ o = cO C a dx da g l') T.o_Counter N (hr.mono (by omega)) hC (by decide) (by decide) (ea_cons (x := v) ?_ (ea_cons (ev_sz0 (q := x.2) (ev_var 3) ev_int) (ea_cons (ev_sz1 (q := x.2) (ev_var 3) ev_int) (ea_cons (ev_sz2 (q := x.2) (ev_var 3) ev_int) ea_nil)))) rfl rfl (fun _ _ ⟨l', _, _, e⟩ => by rw [e]; rfl) (fun z o ⟨l', h1, h2, h3⟩ => ⟨z, ⟨l', h1, h2, by rw [h3]; rfl⟩, rfl⟩) fun P' R' h _ => ⟨C, a, dx, da, g, l', v, _, _, _, rfl, hC, hg, hl', b2, d2, fun l' hl' => h _ _ ⟨l', hl', rfl, rfl⟩⟩)) (fun r Γ' ⟨z, ⟨y, ⟨l2, h1, h2, h3⟩, h4⟩, h5⟩ => ⟨z, cO C a dx da g l2, ⟨l2, h1, by rw [h4, h2], rfl⟩, h5, by rw [h3]; rfl⟩)) fun z o ⟨l2, h1, h2, h3⟩ => ?_
    · rcases hq2 with e | e
      · rw [e]; exact ev_fld (x := RuleD.beside q.name q.cost u v) (y := v) T.o_BesideRule T.a_BesideRule_other rfl rfl (ev_var 1)
      · rw [e]; exact ev_fld (x := RuleD.above q.name q.cost u v) (y := v) T.o_AboveRule T.a_AboveRule_other rfl rfl (ev_var 1)
    · rw [h3]
      exact hq l2 z h1 (by rw [h2]; rfl) (by rw [h2]; exact mul_ok hcost hmany p2 p4 p6 o2 o4 o6) fun _ => h2
theorem ok_of_rule (T : Txt K mg) {d lv : Nat} (h2l : 2 ≤ lv) (N : HasM P w K mg base lv "Counter" "of_name" ["self", "name", "rows", "columns", "cost"] (countS K d)) : HasM P w K mg base (lv + 2) "Counter" "of_rule" ["self", "rule", "rows", "columns", "cost"] (cruleS K d) := by
  refine HasM.of T.m_Counter_of_rule sc_Counter_of_rule (fun A Q R ⟨C, a, dx, da, g, l, q, r, c, k, e, _⟩ => by rw [e]; rfl) fun f cdv A outer s0 H E hr Γ Q R ⟨C, a, dx, da, g, l, q, r, c, k, e, hC, hg, hk, hqm, hr1, hr8, hc1, hc8, hk1, hk40, hkd, hq⟩ => ?_
  subst e
  have hcost := made_cost hg q hqm
  have hpn := made_names hg hqm
  refine st_set 5 (x := k - q.cost) (ev_bin o_sub (ev_var 4) (ev_fld (x := q) (y := q.cost) (o_cls T q) (a_cost T q) rfl (RuleD.f_cost _) (ev_var 1))) ?_ sc_Counter_of_rule.nd
  cases q with
  | cell n co s =>
    refine st_if (k := true) (et_val (ev_isiI T.b_isinstance T.o_CellRule T.o_CellRule T.u_CellRule_CellRule rfl (ev_var 1))) (fun _ => ?_) (fun h => nomatch h)
    refine st_retC 0 (x := cntR (cntT g.rules) (.cell n co s) r c k) (ev_eq (ev_intB T.b_int (ev_and (ev_cmp o_eq (ev_var 5) ev_int) fun _ => ev_and2 (ev_cmp o_eq (ev_var 2) ev_int) fun _ => ev_cmp o_eq (ev_var 3) ev_int)) ?_) (hq l hk)
    simp only [cntR, RuleD.cost]
    by_cases h1 : k - co = 0 <;> by_cases h2 : r = 1 <;> by_cases h3 : c = 1 <;> simp [h1, h2, h3]
  | turn n co b t =>
    have hcost : 1 ≤ co := hcost
    refine st_if (k := false) (et_val (ev_isiI T.b_isinstance T.o_TurnRule T.o_CellRule T.u_TurnRule_CellRule rfl (ev_var 1))) (fun h => nomatch h) (fun _ => st_nil ?_)
    refine st_if (k := decide (k - co < 1)) (et_cmp o_lt (ev_var 5) ev_int) (fun h => ?_) (fun h => st_nil ?_)
    · have h := of_decide_eq_true h
      exact st_retC 0 (x := cntR (cntT g.rules) (.turn n co b t) r c k) (ev_eq ev_int (by simp only [cntR]; rw [if_pos h])) (hq l hk)
    have h := of_decide_eq_false h
    refine st_if (k := true) (et_val (ev_isiI T.b_isinstance T.o_TurnRule T.o_TurnRule T.u_TurnRule_TurnRule rfl (ev_var 1))) (fun _ => ?_) (fun h => nomatch h)
    refine st_set 6 (x := ((if t % 2 = 1 then (c, r) else (r, c)) : Int × Int)) (ev_call (ok_before_turning T) (hr.mono (by omega)) (ea_cons (ev_var 1) (ea_cons (ev_var 2) (ea_cons (ev_var 3) ea_nil))) fun P' R' h => ⟨n, co, b, t, r, c, rfl, h⟩) ?_ sc_Counter_of_rule.nd
    have hval : cntR (cntT g.rules) (.turn n co b t) r c k = cntT g.rules b ((if t % 2 = 1 then (c, r) else (r, c)) : Int × Int).1 ((if t % 2 = 1 then (c, r) else (r, c)) : Int × Int).2 (k - co) := by
      simp only [cntR]
      rw [if_neg h]
      split <;> rfl
    have hsz : 1 ≤ ((if t % 2 = 1 then (c, r) else (r, c)) : Int × Int).1 ∧ ((if t % 2 = 1 then (c, r) else (r, c)) : Int × Int).1 ≤ 8 ∧ 1 ≤ ((if t % 2 = 1 then (c, r) else (r, c)) : Int × Int).2 ∧ ((if t % 2 = 1 then (c, r) else (r, c)) : Int × Int).2 ≤ 8 := by split <;> exact ⟨by assumption, by assumption, by assumption, by assumption⟩
    rw [hval] at hq
    generalize ((if t % 2 = 1 then (c, r) else (r, c)) : Int × Int) = z at hq hsz
    refine st_retGC 0 (l' := repInt) (G := fun (y : Int) o => ∃ l2, Kept g l2 ∧ y = cntT g.rules b z.1 z.2 (k - co) ∧ o = cO C a dx da g l2) (eg_methC 0 (lr := repInt) (m := "of_name") (G := fun y o => ∃ l', Kept g l' ∧ y = cntT g.rules b z.1 z.2 (k - co) ∧ o = cO C a dx da g l') T.o_Counter N (hr.mono (by omega)) hC (by decide) (by decide) (ea_cons (x := b) (ev_fld (x := RuleD.turn n co b t) (y := b) T.o_TurnRule T.a_TurnRule_part rfl rfl (ev_var 1)) (ea_cons (x := z.1) (ev_fst (ev_var 6)) (ea_cons (x := z.2) (ev_snd (ev_var 6)) (ea_cons (x := k - co) (ev_var 5) ea_nil)))) rfl rfl (fun _ _ ⟨l', _, _, e⟩ => by rw [e]; rfl) (fun y o ⟨l', h1, h2, h3⟩ => ⟨y, o, ⟨l', h1, h2, h3⟩, rfl, rfl⟩) fun P' R' h' _ => ⟨C, a, dx, da, g, l, b, _, _, _, rfl, hC, hg, hk, ⟨hpn b (List.mem_singleton.mpr rfl), hsz.1, hsz.2.1, hsz.2.2.1, hsz.2.2.2, by show 1 ≤ k - co; omega, by show k - co ≤ 40; omega⟩, by omega, fun l' hl' => h' _ _ ⟨l', hl', rfl, rfl⟩⟩) fun y o ⟨l2, h1, h2, h3⟩ => ?_
    rw [h3, h2]
    exact hq l2 h1
  | beside n co u v =>
    have hcost : 1 ≤ co := hcost
    refine st_if (k := false) (et_val (ev_isiI T.b_isinstance T.o_BesideRule T.o_CellRule T.u_BesideRule_CellRule rfl (ev_var 1))) (fun h => nomatch h) (fun _ => st_nil ?_)
    refine st_if (k := decide (k - co < 1)) (et_cmp o_lt (ev_var 5) ev_int) (fun h => ?_) (fun h => st_nil ?_)
    · have h := of_decide_eq_true h
      exact st_retC 0 (x := cntR (cntT g.rules) (.beside n co u v) r c k) (ev_eq ev_int (by simp only [cntR]; rw [if_pos h])) (hq l hk)
    have h := of_decide_eq_false h
    refine st_if (k := false) (et_val (ev_isiI T.b_isinstance T.o_BesideRule T.o_TurnRule T.u_BesideRule_TurnRule rfl (ev_var 1))) (fun h => nomatch h) (fun _ => st_nil ?_)
    have hval : cntR (cntT g.rules) (.beside n co u v) r c k = ((sharesL true r c (k - co)).map (mulS (cntT g.rules) u v)).sum := by
      simp only [cntR]
      rw [if_neg h]
    rw [hval] at hq
    refine st_set 7 (x := (0 : Int)) ev_int ?_ sc_Counter_of_rule.nd
    refine st_for (fun m Γ' => ∃ l', Le Γ' [.own (cO C a dx da g l'), vl (RuleD.beside n co u v), vl r, vl c, vl k, vl (k - co), .no, vl ((((sharesL true r c (k - co)).take m).map (mulS (cntT g.rules) u v)).sum), .no, .no, .no] ∧ Kept g l') (src_list (xs := sharesL true r c (k - co)) (ev_of_en (en_call (ok_shares T) (hr.mono (by omega)) (ea_cons (ev_var 1) (ea_cons (ev_var 2) (ea_cons (ev_var 3) (ea_cons (ev_var 5) ea_nil)))) fun P' R' h' => ⟨RuleD.beside n co u v, r, c, k - co, rfl, hr8, hc8, by omega, by omega, by omega, by omega, rfl, fun n' co' a' b' e => h', fun n' co' a' b' e => by cases e⟩))) (tg_pair 8 9 (by decide)) ⟨l, Le.refl, hk⟩ (fun m x Γ' hm hP => ?_) (fun Γ' hP => ?_) (pg2 8 9 (pgn 8 sc_Counter_of_rule.nd) (pgn 9 sc_Counter_of_rule.nd))
    · obtain ⟨l1, le, hk1⟩ := hP
      have hin := shares_in (List.mem_of_getElem? hm)
      obtain ⟨i1, i2, i3, i4⟩ := hin.pos hr1 hc1
      have j1 := hin.r1
      have j2 := hin.c1
      have j3 := hin.r2
      have j4 := hin.c2
      have j5 := hin.k1
      have j6 := hin.k2
      have j7 := hin.ks
      refine st_le (Le.set (Le.set le 8 _) 9 _) ?_
      refine st_setGE 10 (i := repPair) (G := fun (y : Int × Int) Γ' => ∃ l', Kept g l' ∧ (y.1 * y.2 = mulS (cntT g.rules) u v x ∧ CMulW y.1 y.2) ∧ Γ' = [.own (cO C a dx da g l'), vl (RuleD.beside n co u v), vl r, vl c, vl k, vl (k - co), .no, vl ((((sharesL true r c (k - co)).take m).map (mulS (cntT g.rules) u v)).sum), vl x.1, vl x.2, .no]) (eg_methC 0 (lr := repPair) (m := "of_shares") (G := fun (y : Int × Int) o => ∃ l', Kept g l' ∧ (y.1 * y.2 = mulS (cntT g.rules) u v x ∧ CMulW y.1 y.2) ∧ o = cO C a dx da g l') T.o_Counter (ok_of_shares T N) (hr.mono (by omega)) hC (by decide) (by decide) (ea_cons (x := RuleD.beside n co u v) (ev_var 1) (ea_cons (x := x.1) (ev_var 8) (ea_cons (x := x.2) (ev_var 9) ea_nil))) rfl rfl (fun _ _ ⟨l', _, _, e⟩ => by rw [e]; rfl) (fun z o ⟨l', h1, h2, h3⟩ => ⟨z, ⟨l', h1, h2, by rw [h3]; rfl⟩, rfl⟩) fun P' R' h' _ => ⟨C, a, dx, da, g, l1, RuleD.beside n co u v, true, u, v, x, rfl, hC, hg, hk1, .inl rfl, ⟨hpn u (by simp [RuleD.parts]), i1, (by omega : x.1.r ≤ 8), i2, (by omega : x.1.c ≤ 8), j5, (by omega : x.1.k ≤ 40)⟩, ⟨hpn v (by simp [RuleD.parts]), i3, (by omega : x.2.r ≤ 8), i4, (by omega : x.2.c ≤ 8), j6, (by omega : x.2.k ≤ 40)⟩, by omega, by omega, fun l' y hl' hy1 hy2 _ => h' _ _ ⟨l', hl', ⟨hy1, hy2⟩, rfl⟩⟩) (fun y Γ' hy => ?_) sc_Counter_of_rule.nd
      obtain ⟨l2, hl2, ⟨hy1, hy2⟩, rfl⟩ := hy
      refine st_set 7 (x := (((((sharesL true r c (k - co)).take (m + 1)).map (mulS (cntT g.rules) u v)).sum))) (ev_eq (ev_bin o_add (ev_var 7) (ev_bin (o_mulW hy2) (ev_fst (x := y) (ev_var 10)) (ev_snd (x := y) (ev_var 10)))) (by rw [take_sum hm, hy1])) (st_nil ?_) sc_Counter_of_rule.nd
      exact ⟨l2, le_cons (le_cons (le_cons (le_cons (le_cons (le_cons (le_no (le_cons (le_no (le_no (le_no le_nil)))))))))), hl2⟩
    · obtain ⟨l1, le, hk1⟩ := hP
      rw [List.take_length] at le
      refine st_le le ?_
      exact st_retC 0 (ev_var 7) (hq l1 hk1)
  | above n co u v =>
    have hcost : 1 ≤ co := hcost
    refine st_if (k := false) (et_val (ev_isiI T.b_isinstance T.o_AboveRule T.o_CellRule T.u_AboveRule_CellRule rfl (ev_var 1))) (fun h => nomatch h) (fun _ => st_nil ?_)
    refine st_if (k := decide (k - co < 1)) (et_cmp o_lt (ev_var 5) ev_int) (fun h => ?_) (fun h => st_nil ?_)
    · have h := of_decide_eq_true h
      exact st_retC 0 (x := cntR (cntT g.rules) (.above n co u v) r c k) (ev_eq ev_int (by simp only [cntR]; rw [if_pos h])) (hq l hk)
    have h := of_decide_eq_false h
    refine st_if (k := false) (et_val (ev_isiI T.b_isinstance T.o_AboveRule T.o_TurnRule T.u_AboveRule_TurnRule rfl (ev_var 1))) (fun h => nomatch h) (fun _ => st_nil ?_)
    have hval : cntR (cntT g.rules) (.above n co u v) r c k = ((sharesL false r c (k - co)).map (mulS (cntT g.rules) u v)).sum := by
      simp only [cntR]
      rw [if_neg h]
    rw [hval] at hq
    refine st_set 7 (x := (0 : Int)) ev_int ?_ sc_Counter_of_rule.nd
    refine st_for (fun m Γ' => ∃ l', Le Γ' [.own (cO C a dx da g l'), vl (RuleD.above n co u v), vl r, vl c, vl k, vl (k - co), .no, vl ((((sharesL false r c (k - co)).take m).map (mulS (cntT g.rules) u v)).sum), .no, .no, .no] ∧ Kept g l') (src_list (xs := sharesL false r c (k - co)) (ev_of_en (en_call (ok_shares T) (hr.mono (by omega)) (ea_cons (ev_var 1) (ea_cons (ev_var 2) (ea_cons (ev_var 3) (ea_cons (ev_var 5) ea_nil)))) fun P' R' h' => ⟨RuleD.above n co u v, r, c, k - co, rfl, hr8, hc8, by omega, by omega, by omega, by omega, rfl, fun n' co' a' b' e => (by cases e), fun n' co' a' b' e => h'⟩))) (tg_pair 8 9 (by decide)) ⟨l, Le.refl, hk⟩ (fun m x Γ' hm hP => ?_) (fun Γ' hP => ?_) (pg2 8 9 (pgn 8 sc_Counter_of_rule.nd) (pgn 9 sc_Counter_of_rule.nd))
    · obtain ⟨l1, le, hk1⟩ := hP
      have hin := shares_in (List.mem_of_getElem? hm)
      obtain ⟨i1, i2, i3, i4⟩ := hin.pos hr1 hc1
      have j1 := hin.r1
      have j2 := hin.c1
      have j3 := hin.r2
      have j4 := hin.c2
      have j5 := hin.k1
      have j6 := hin.k2
      have j7 := hin.ks
      refine st_le (Le.set (Le.set le 8 _) 9 _) ?_
      refine st_setGE 10 (i := repPair) (G := fun (y : Int × Int) Γ' => ∃ l', Kept g l' ∧ (y.1 * y.2 = mulS (cntT g.rules) u v x ∧ CMulW y.1 y.2) ∧ Γ' = [.own (cO C a dx da g l'), vl (RuleD.above n co u v), vl r, vl c, vl k, vl (k - co), .no, vl ((((sharesL false r c (k - co)).take m).map (mulS (cntT g.rules) u v)).sum), vl x.1, vl x.2, .no]) (eg_methC 0 (lr := repPair) (m := "of_shares") (G := fun (y : Int × Int) o => ∃ l', Kept g l' ∧ (y.1 * y.2 = mulS (cntT g.rules) u v x ∧ CMulW y.1 y.2) ∧ o = cO C a dx da g l') T.o_Counter (ok_of_shares T N) (hr.mono (by omega)) hC (by decide) (by decide) (ea_cons (x := RuleD.above n co u v) (ev_var 1) (ea_cons (x := x.1) (ev_var 8) (ea_cons (x := x.2) (ev_var 9) ea_nil))) rfl rfl (fun _ _ ⟨l', _, _, e⟩ => by rw [e]; rfl) (fun z o ⟨l', h1, h2, h3⟩ => ⟨z, ⟨l', h1, h2, by rw [h3]; rfl⟩, rfl⟩) fun P' R' h' _ => ⟨C, a, dx, da, g, l1, RuleD.above n co u v, true, u, v, x, rfl, hC, hg, hk1, .inr rfl, ⟨hpn u (by simp [RuleD.parts]), i1, (by omega : x.1.r ≤ 8), i2, (by omega : x.1.c ≤ 8), j5, (by omega : x.1.k ≤ 40)⟩, ⟨hpn v (by simp [RuleD.parts]), i3, (by omega : x.2.r ≤ 8), i4, (by omega : x.2.c ≤ 8), j6, (by omega : x.2.k ≤ 40)⟩, by omega, by omega, fun l' y hl' hy1 hy2 _ => h' _ _ ⟨l', hl', ⟨hy1, hy2⟩, rfl⟩⟩) (fun y Γ' hy => ?_) sc_Counter_of_rule.nd
      obtain ⟨l2, hl2, ⟨hy1, hy2⟩, rfl⟩ := hy
      refine st_set 7 (x := (((((sharesL false r c (k - co)).take (m + 1)).map (mulS (cntT g.rules) u v)).sum))) (ev_eq (ev_bin o_add (ev_var 7) (ev_bin (o_mulW hy2) (ev_fst (x := y) (ev_var 10)) (ev_snd (x := y) (ev_var 10)))) (by rw [take_sum hm, hy1])) (st_nil ?_) sc_Counter_of_rule.nd
      exact ⟨l2, le_cons (le_cons (le_cons (le_cons (le_cons (le_cons (le_no (le_cons (le_no (le_no (le_no le_nil)))))))))), hl2⟩
    · obtain ⟨l1, le, hk1⟩ := hP
      rw [List.take_length] at le
      refine st_le le ?_
      exact st_retC 0 (ev_var 7) (hq l1 hk1)
theorem ok_of_name (T : Txt K mg) {d lv : Nat} (h2l : 2 ≤ lv) (R0 : HasM P w K mg base lv "Counter" "of_rule" ["self", "rule", "rows", "columns", "cost"] (cruleS K d)) : HasM P w K mg base (lv + 1) "Counter" "of_name" ["self", "name", "rows", "columns", "cost"] (countS K (d + 1)) := by
  refine HasM.of T.m_Counter_of_name sc_Counter_of_name (fun A Q R ⟨C, a, dx, da, g, l, n, r, c, k, e, _⟩ => by rw [e]; rfl) fun f cdv A outer s0 H E hr Γ Q R ⟨C, a, dx, da, g, l, n, r, c, k, e, hC, hg, hk, hb, hd, hq⟩ => ?_
  subst e
  obtain ⟨C', kC, gC⟩ := id T.o_Counter
  obtain rfl := ns_one kC.ns hC
  have nk := T.a_Counter_kept _ hC
  have ng := T.a_Counter_grammar _ hC
  obtain ⟨hnm, p1, p2, p3, p4, p5, p6⟩ := id hb
  have hcost := made_cost hg
  have h24 := hg.ok.many
  have h8 := hg.ok.n8
  have hcnt := cntT_eq hcost n r c k
  refine st_set 5 (x := Key4.mk n r c k) (ev_key4 (ev_tupH (es_cons (ev_d (α := Tx) (ev_var 1)) (es_cons (ev_d (α := Int) (ev_var 2)) (es_cons (ev_d (α := Int) (ev_var 3)) (es_cons (ev_d (α := Int) (ev_var 4)) es_nil)))))) ?_ sc_Counter_of_name.nd
  refine st_ifJ (ι := List (Key4 × Int)) (fun l' => [.own (cO C a dx da g l'), vl n, vl r, vl c, vl k, vl (Key4.mk n r c k), .no, .no]) (fun l' => Kept g l' ∧ look l' (Key4.mk n r c k) = some (cntT g.rules n r c k)) (k := !(look l (Key4.mk n r c k)).isSome) (et_cnotin 0 (f1 := "grammar") (f2 := "kept") hr (by decide) kC.cl nk (ev_var 5)) (fun h => ?_) (fun h => st_nil ?_) (fun l' ⟨hk', hlk⟩ => ?_)
  · refine st_set 6 (x := (0 : Int)) ev_int ?_ sc_Counter_of_name.nd
    refine st_for (fun m Γ' => ∃ l', Le Γ' [.own (cO C a dx da g l'), vl n, vl r, vl c, vl k, vl (Key4.mk n r c k), vl ((((g.rules.filter fun q => decide (q.name = n)).take m).map fun q => cntR (cntT g.rules) q r c k).sum), .no] ∧ Kept g l') (src_list (xs := numbersL n g.rules) (ev_of_en (en_of_ex (ex_of_exx (exx_meth (x := g) T.o_Grammar (ok_Grammar_numbers_of T) (hr.mono (by omega)) rfl (lk rfl) (ev_cfld 0 kC.cl ng) (ea_cons (x := n) (ev_var 1) ea_nil) fun P' R' h' _ => ⟨g, n, rfl, by omega, fun _ => h' _ rfl, fun z => absurd hnm z⟩))))) (tg_name 7) ⟨l, Le.refl, hk⟩ (fun m i Γ' hm hP => ?_) (fun Γ' hP => ?_) (pgn 7 sc_Counter_of_name.nd)
    · obtain ⟨l1, le, hk1⟩ := hP
      obtain ⟨q, hqa, hqm, hqf⟩ := nums_at hm
      refine st_le (Le.set le 7 _) ?_
      refine st_setGE 6 (i := repInt) (G := fun z Γ' => ∃ l', Kept g l' ∧ z = ((((g.rules.filter fun q => decide (q.name = n)).take m).map fun q => cntR (cntT g.rules) q r c k).sum) + cntR (cntT g.rules) q r c k ∧ Γ' = [.own (cO C a dx da g l'), vl n, vl r, vl c, vl k, vl (Key4.mk n r c k), vl ((((g.rules.filter fun q => decide (q.name = n)).take m).map fun q => cntR (cntT g.rules) q r c k).sum), vl i]) (eg_imp (eg_binR (op := .Add) (i' := repInt) (j' := repInt) (l' := repInt) (x := ((((g.rules.filter fun q => decide (q.name = n)).take m).map fun q => cntR (cntT g.rules) q r c k).sum)) (N := fun y Γ' => ∃ l', Kept g l' ∧ y = cntR (cntT g.rules) q r c k ∧ Γ' = [.own (cO C a dx da g l'), vl n, vl r, vl c, vl k, vl (Key4.mk n r c k), vl ((((g.rules.filter fun q => decide (q.name = n)).take m).map fun q => cntR (cntT g.rules) q r c k).sum), vl i]) (g := fun y => ((((g.rules.filter fun q => decide (q.name = n)).take m).map fun q => cntR (cntT g.rules) q r c k).sum) + y) (fun y Γ' _ => o_add) (ev_var 6) (eg_methC 0 (lr := repInt) (m := "of_rule") (G := fun z o => ∃ l', Kept g l' ∧ z = cntR (cntT g.rules) q r c k ∧ o = cO C a dx da g l') T.o_Counter R0 (hr.mono (by omega)) hC (by decide) (by decide) (ea_cons (x := q) (ev_of_ex (ex_of_exx (exx_meth (x := g) T.o_Grammar (ok_Grammar_rule T) (hr.mono (by omega)) rfl (lk rfl) (ev_cfld 0 kC.cl ng) (ea_cons (x := i) (ev_var 7) ea_nil) fun P' R' h' _ => ⟨g, i, q, rfl, hqa, h' _ rfl⟩))) (ea_cons (ev_var 2) (ea_cons (ev_var 3) (ea_cons (ev_var 4) ea_nil)))) rfl rfl (fun _ _ ⟨l', _, _, e⟩ => by rw [e]; rfl) (fun z o ⟨l', h1, h2, h3⟩ => ⟨z, ⟨l', h1, h2, by rw [h3]; rfl⟩, rfl⟩) fun P' R' h' _ => ⟨C, a, dx, da, g, l1, q, r, c, k, rfl, hC, hg, hk1, hqm, p1, p2, p3, p4, p5, p6, by omega, fun l' hl' => h' _ _ ⟨l', hl', rfl, rfl⟩⟩)) (fun rr Γ' ⟨z, ⟨y, ⟨l', h1, h2, h3⟩, h4⟩, h5⟩ => ⟨z, ⟨l', h1, by rw [h4, h2], h3⟩, h5⟩)) (fun z Γ' hz => ?_) sc_Counter_of_name.nd
      obtain ⟨l2, hl2, rfl, rfl⟩ := hz
      refine st_nil ⟨l2, ?_, hl2⟩
      rw [take_sum hqf]
      exact le_cons (le_cons (le_cons (le_cons (le_cons (le_cons (le_cons (le_no le_nil)))))))
    · obtain ⟨l1, le, hk1⟩ := hP
      rw [numb_len, List.take_length, ← hcnt] at le
      refine st_le le ?_
      refine st_cput 0 (f1 := "grammar") (f2 := "kept") hr (by decide) kC.cl nk (y := cntT g.rules n r c k) (ev_var 6) (ev_var 5) (hk1.len h8) (st_nil ?_)
      exact ⟨put l1 (Key4.mk n r c k) (cntT g.rules n r c k), le_cons (le_cons (le_cons (le_cons (le_cons (le_cons (le_no (le_no le_nil))))))), hk1.put hb, by rw [look_put, if_pos rfl]⟩
  · obtain ⟨v, hv⟩ := Option.isSome_iff_exists.mp (show (look l (Key4.mk n r c k)).isSome = true by simpa using h)
    refine ⟨l, Le.refl, hk, ?_⟩
    rw [hv, hk.val _ v hv]
  · exact st_retC 0 (x := cntT g.rules n r c k) (ev_cget 0 (f1 := "grammar") (f2 := "kept") hr (by decide) kC.cl nk (ev_var 5) hlk) (hq l' hk')
end
noncomputable def ctS (d : Nat) : Tw.Spec := fun A P R => ∃ (g : GramD) (n : Tx) (r c k : Int), A = [vl g, vl n, vl r, vl c, vl k] ∧ g.Made ∧ 1 ≤ r ∧ r ≤ 8 ∧ 1 ≤ c ∧ c ≤ 8 ∧ 1 ≤ k ∧ k ≤ 40 ∧ k ≤ (d : Int) ∧ (n ∈ g.names → P (rv (cntT g.rules n r c k))) ∧ (n ∉ g.names → R NoNameX)
section
variable {P : Program} {w : World} {K : PySem.W.Frag} {mg : Str → Option Value} {base : Heap}
theorem all_of_name (T : Txt K mg) : ∀ d : Nat, HasM P w K mg base (2 + 3 * d) "Counter" "of_name" ["self", "name", "rows", "columns", "cost"] (countS K d)
  | 0 => HasM.of (k := 1) T.m_Counter_of_name sc_Counter_of_name (fun A Q R ⟨C, a, dx, da, g, l, n, r, c, k, e, _⟩ => by rw [e]; rfl) fun f cdv A outer s0 H E hr Γ Q R ⟨C, a, dx, da, g, l, n, r, c, k, e, hC, hg, hk, ⟨_, _, _, _, _, h1, _⟩, hd, hq⟩ => by
    have h1 : 1 ≤ k := h1
    omega
  | d + 1 => ok_of_name T (lv := 2 + 3 * d + 2) (by omega) (ok_of_rule T (by omega) (all_of_name T d))
theorem ok_count_trees (T : Txt K mg) (d : Nat) : Has P w K mg base (2 + 3 * d + 1) "count_trees" ["grammar", "name", "rows", "columns", "cost"] (ctS d) := by
  refine Has.ofX (k := 2 + 3 * d) T.f_count_trees sc_count_trees (fun A Q R ⟨g, n, r, c, k, e, _⟩ => by rw [e]; rfl) fun f cdv A outer s0 H E hr Γ Q R ⟨g, n, r, c, k, e, hg, p1, p2, p3, p4, p5, p6, hd, q1, q2⟩ => ?_
  subst e
  have h24 := hg.ok.many
  by_cases hn : n ∈ g.names
  · refine st_dropX (P := fun _ => True) (R := fun _ => False) (exx_meth (x := g) T.o_Grammar (ok_Grammar_numbers_of T) (hr.mono (by omega)) rfl (lk rfl) (ev_var 0) (ea_cons (x := n) (ev_var 1) ea_nil) fun P' R' h' _ => ⟨g, n, rfl, by omega, fun _ => h' _ trivial, fun z => absurd hn z⟩) ?_ (fun _ z => z.elim)
    exact st_retV (ev_makeMeth (i := repInst) (j := repInt) (f1 := "grammar") (f2 := "kept") (x := g) (y := cntT g.rules n r c k) (lr := repInt) (κ := Key4) T.o_Counter (ok_Counter_init T) (all_of_name T d) (hr.mono (by omega)) (hr.mono (by omega)) (by decide) (by decide) (by decide) (ea_cons (x := g) (ev_var 0) ea_nil) rfl (ea_cons (ev_var 1) (ea_cons (ev_var 2) (ea_cons (ev_var 3) (ea_cons (ev_var 4) ea_nil)))) rfl (fun C hC ad dx P' R' h => ⟨C, ad, dx, g, rfl, hC, h⟩) (fun C ad dx da P' R' hC h => ⟨C, ad, dx, da, g, [], n, r, c, k, rfl, hC, hg, Kept.nil, ⟨hn, p1, p2, p3, p4, p5, p6⟩, hd, fun l' _ => h _⟩)) (q1 hn)
  · exact st_dropR (R := fun y => y = NoNameX) (exx_meth (x := g) T.o_Grammar (ok_Grammar_numbers_of T) (hr.mono (by omega)) rfl (lk rfl) (ev_var 0) (ea_cons (x := n) (ev_var 1) ea_nil) fun P' R' _ h' => ⟨g, n, rfl, by omega, fun z => absurd z hn, fun _ => h' _ rfl⟩) (fun y e => e ▸ q2 hn)
end
structure RowQ where
  r : RuleD
noncomputable def RuleD.kdI : RuleD → Int
  | .cell .. => 0
  | .beside .. => 1
  | .above .. => 2
  | .turn .. => 3
noncomputable def RuleD.tl2 : RuleD → List Dy
  | .cell _ _ s => [.s s, .s []]
  | .beside _ _ a b => [.s a, .s b]
  | .above _ _ a b => [.s a, .s b]
  | .turn _ _ a t => [.s a, .i t]
noncomputable def RowQ.d (q : RowQ) : Dy := .t (.s q.r.name :: .i q.r.cost :: .i q.r.kdI :: q.r.tl2)
noncomputable instance repRowQ : Rep RowQ := repOfD RowQ.d
noncomputable instance isdRowQ : IsD RowQ := ⟨RowQ.d, Iff.rfl⟩
section
variable {X : Cx} {Γ : List Slot} {pos p p2 : Pos} {e a b : Expr} {q : RowQ}
theorem ev_qn (h : EV X Γ e q) (hi : EV X Γ b (0 : Int)) (hp : autoParam (PlainIx b) Tw.aIR2) : EV X Γ (.Subscript e b pos) q.r.name := ev_ixY (α := RowQ) (β := Tx) h hi rfl (atI_nat (j := 0) rfl) hp
theorem ev_qc (h : EV X Γ e q) (hi : EV X Γ b (1 : Int)) (hp : autoParam (PlainIx b) Tw.aIR2) : EV X Γ (.Subscript e b pos) q.r.cost := ev_ixY (α := RowQ) (β := Int) h hi rfl (atI_nat (j := 1) rfl) hp
theorem ev_qk (h : EV X Γ e q) (hi : EV X Γ b (2 : Int)) (hp : autoParam (PlainIx b) Tw.aIR2) : EV X Γ (.Subscript e b pos) q.r.kdI := ev_ixY (α := RowQ) (β := Int) h hi rfl (atI_nat (j := 2) rfl) hp
theorem ev_q3 {x : Tx} (h : EV X Γ e q) (hi : EV X Γ b (3 : Int)) (hx : q.r.tl2[0]? = some (.s x)) (hp : autoParam (PlainIx b) Tw.aIR2) : EV X Γ (.Subscript e b pos) x := ev_ixY (α := RowQ) (β := Tx) h hi rfl (atI_nat (j := 3) (show q.r.tl2[0]? = some (.s x) from hx)) hp
theorem ev_q4 {β : Type} {j : Rep β} [h2 : IsD β] {x : β} (h : EV X Γ e q) (hi : EV X Γ b (4 : Int)) (hx : q.r.tl2[1]? = some (h2.d x)) (hp : autoParam (PlainIx b) Tw.aIR2) : EV X Γ (.Subscript e b pos) x := ev_ixY (α := RowQ) (β := β) h hi rfl (atI_nat (j := 4) (show q.r.tl2[1]? = some (h2.d x) from hx)) hp
end
structure DrawnQ (names : List Tx) (signs : Tx) (r : RuleD) : Prop where
  good : r.good = true
  of : r.of signs
  nm : ∀ n ∈ r.name :: r.parts, n ∈ names
noncomputable def cellsL (s : List Int) (b m : Int) : List Int := (rng b (b + (m - lawCell s 62 % m / 2) - b).toNat).map fun k => lawCell s k
theorem cellsL_len {s : List Int} {b m : Int} (hm : 1 ≤ m) : (cellsL s b m).length ≤ m.toNat := by
  have h1 := Int.emod_nonneg (lawCell s 62) (by omega : m ≠ 0)
  unfold cellsL
  rw [List.length_map, rng_len]
  omega
noncomputable def cellsS : Tw.Spec := fun A P _ => ∃ (s : Scr) (b m : Int), A = [vl s, vl b, vl m] ∧ s.l.length ≤ 63 ∧ 0 ≤ b ∧ b ≤ 60 ∧ 1 ≤ m ∧ m ≤ 60 ∧ P (rn (cellsL s.l b m))
noncomputable def signs32S : Tw.Spec := fun A P _ => ∃ (c m : Int), A = [vl c, vl m] ∧ 1 ≤ m ∧ m ≤ 4 ∧ ∀ x : Tx, signsOk x = true → P (rv x)
noncomputable def names32S : Tw.Spec := fun A P _ => ∃ (c : Int), A = [vl c] ∧ ∀ ns : List Tx, ns.length = 4 → (∀ n ∈ ns, isName n = true) → P (rn ns)
noncomputable def rule32S : Tw.Spec := fun A P _ => ∃ (q : RowQ), A = [vl q] ∧ q.r.good = true ∧ P (rv q.r)
noncomputable def gram32S : Tw.Spec := fun A P _ => ∃ (signs st : Tx) (rules : List RowQ), A = [vl signs, vl st, vl rules] ∧ signs.length ≤ 4 ∧ st.length ≤ 4 ∧ rules.length ≤ 24 ∧ (∀ q ∈ rules, q.r.good = true) ∧ whyG signs st (rules.map RowQ.r) = none ∧ P (rv (mkG signs st (rules.map RowQ.r)))
theorem signs_good (a st n : Nat) (ha : a < 26) (hst : st < 6) (hn : n < 5) (h0 : 1 ≤ n) {x : Tx} (e : x = (List.range n).map fun k => 97 + (a + k * (1 + 2 * st)) % 26) : signsOk x = true := by
  have hl : x.length = n := by rw [e, List.length_map, List.length_range]
  have hin : ∀ y ∈ x, y ∈ smallTx := fun y hy => by
    rw [e] at hy
    obtain ⟨k, _, rfl⟩ := List.mem_map.mp hy
    have : ∀ m, m < 26 → smallTx[m]? = some (97 + m) := by decide +kernel
    exact List.mem_of_getElem? (this ((a + k * (1 + 2 * st)) % 26) (Nat.mod_lt _ (by decide)))
  unfold signsOk
  rw [decide_eq_true (show 1 ≤ x.length by omega), decide_eq_true (show x.length ≤ 4 by omega), decide_eq_true (show x.Nodup by rw [e]; exact sm_nodup a ha st hst n hn)]
  rw [show (x.all fun c => decide (c ∈ smallTx)) = true from List.all_eq_true.mpr fun y hy => decide_eq_true (hin y hy)]
  rfl
theorem name_of {x : Tx} (h1 : 1 ≤ x.length) (h2 : x.length ≤ 4) (h3 : ∀ c ∈ x, c ∈ capTx) : isName x = true := by
  unfold isName
  rw [decide_eq_true h1, decide_eq_true h2, List.all_eq_true.mpr fun c hc => decide_eq_true (h3 c hc)]
  rfl
section
variable {P : Program} {w : World} {K : PySem.W.Frag} {mg : Str → Option Value} {base : Heap}
theorem ok_law_cells (T : Txt K mg) : Has P w K mg base 2 "_law_cells" ["_law_script", "_law_begin", "_law_most"] cellsS := by
  refine Has.of T.f_law_cells sc_law_cells (fun A Q R ⟨s, b, m, e, _⟩ => by rw [e]; rfl) fun f cdv A outer s0 H E hr Γ Q R ⟨s, b, m, e, hs, hb0, hb, hm1, hm, hq⟩ => ?_
  subst e
  have h1 := Int.emod_nonneg (lawCell s.l 62) (by omega : m ≠ 0)
  have h2 := Int.emod_lt_of_pos (lawCell s.l 62) (by omega : 0 < m)
  refine st_set 3 (x := m - lawCell s.l 62 % m / 2) (ev_bin o_sub (ev_var 2) (ev_bin (o_div divK) (ev_bin (o_mod (by omega)) (ev_call (x := lawCell s.l 62) (ok_law_cell T) (hr.mono (by decide)) (ea_cons (ev_var 0) (ea_cons (x := (62 : Int)) ev_int ea_nil)) fun P R h => ⟨s, 62, rfl, hs, by decide, h⟩) (ev_var 2)) ev_int)) ?_ sc_law_cells.nd
  refine st_retE (en_lc (α := Int) (β := Int) (own := [("_law_k", 4)]) (f := fun k => lawCell s.l k) (src_range2 (m := b) (n := b + (m - lawCell s.l 62 % m / 2)) T.b_range (ev_var 1) (ev_bin o_add (ev_var 1) (ev_var 3)) (by omega)) (tg_name 4) (fun _ _ _ _ _ => pgn 4 sc_law_cells.nd) (fun k hk _ _ _ _ _ => ev_call (ok_law_cell T) (hr.mono (by decide)) (ea_cons (ev_var 0) (ea_cons (ev_var 4) ea_nil)) fun P R h => ⟨s, k, rfl, hs, by (obtain ⟨j, _, rfl⟩ := rng_mem hk; omega), h⟩) sc_law_cells.nd (ok := bk_law_cells (by decide +kernel)) (hz := by rw [rng_len]; exact sl_small (by omega))) hq
theorem ok_law_signs (T : Txt K mg) : Has P w K mg base 1 "_law_signs" ["_law_cell_here", "_law_most"] signs32S := by
  refine Has.of (k := 0) T.f_law_signs sc_law_signs (fun A Q R ⟨c, m, e, _⟩ => by rw [e]; rfl) fun f cdv A outer s0 H E hr Γ Q R ⟨c, m, e, hm1, hm4, hq⟩ => ?_
  subst e
  have a1 := Int.emod_nonneg (c / 104) (by decide : (6 : Int) ≠ 0)
  have a2 := Int.emod_lt_of_pos (c / 104) (by decide : (0 : Int) < 6)
  have a3 := Int.emod_nonneg (c % 4) (by omega : m ≠ 0)
  have a4 := Int.emod_lt_of_pos (c % 4) (by omega : 0 < m)
  have a5 := Int.emod_nonneg (c / 4) (by decide : (26 : Int) ≠ 0)
  have a6 := Int.emod_lt_of_pos (c / 4) (by decide : (0 : Int) < 26)
  refine st_set 2 (x := smallTx) (ev_str "abcdefghijklmnopqrstuvwxyz") ?_ sc_law_signs.nd
  refine st_set 3 (x := 1 + 2 * (c / 104 % 6)) (ev_bin o_add ev_int (ev_bin (o_mul mulL) ev_int (ev_bin (o_mod (by decide)) (ev_bin (o_div divK) (ev_var 0) ev_int) ev_int))) ?_ sc_law_signs.nd
  have habc : ∀ m, m < 26 → smallTx[m]? = some (97 + m) := by decide +kernel
  refine st_retV (x := (rng 0 (1 + c % 4 % m).toNat).map fun k => 97 + ((c / 4 + (1 + 2 * (c / 104 % 6)) * k) % 26).toNat) (ev_eq (ev_join (xs := (rng 0 (1 + c % 4 % m).toNat).map fun k => ([97 + ((c / 4 + (1 + 2 * (c / 104 % 6)) * k) % 26).toNat] : Tx)) (ev_str "") (ev_of_en (en_lc (α := Int) (β := Tx) (own := [("_law_k", 4)]) (f := fun k => ([97 + ((c / 4 + (1 + 2 * (c / 104 % 6)) * k) % 26).toNat] : Tx)) (src_range (n := 1 + c % 4 % m) T.b_range (ev_bin o_add ev_int (ev_bin (o_mod (by omega)) (ev_bin (o_mod (by decide)) (ev_var 0) ev_int) (ev_var 1))) (by omega) (by omega)) (tg_name 4) (fun _ _ _ _ _ => pgn 4 sc_law_signs.nd) (fun k hk _ _ _ _ _ => ev_ixS (x := smallTx) (ev_var 2) (ev_bin (o_mod (by decide)) (ev_bin o_add (ev_bin (o_div divK) (ev_var 0) ev_int) (ev_bin (o_mul (x := 1 + 2 * (c / 104 % 6)) (y := k) (.inl ⟨by omega, by omega⟩)) (ev_var 3) (ev_var 4))) ev_int) ?_ (sl_small (by decide))) sc_law_signs.nd (ok := bk_law_signs (by decide +kernel)) (hz := by rw [rng_len]; exact sl_small (by omega)))) ?_) ?_) (hq _ ?_)
  · have b1 := Int.emod_nonneg (c / 4 + (1 + 2 * (c / 104 % 6)) * k) (by decide : (26 : Int) ≠ 0)
    have b2 := Int.emod_lt_of_pos (c / 4 + (1 + 2 * (c / 104 % 6)) * k) (by decide : (0 : Int) < 26)
    have := atI_nat (habc ((c / 4 + (1 + 2 * (c / 104 % 6)) * k) % 26).toNat (by omega))
    rwa [show ((((c / 4 + (1 + 2 * (c / 104 % 6)) * k) % 26).toNat : Nat) : Int) = (c / 4 + (1 + 2 * (c / 104 % 6)) * k) % 26 by omega] at this
  · show _ + _ * 0 ≤ _
    rw [sum_ones, rng_len]; omega
  · show joinL [] _ = _
    rw [show (rng 0 (1 + c % 4 % m).toNat).map (fun k => ([97 + ((c / 4 + (1 + 2 * (c / 104 % 6)) * k) % 26).toNat] : Tx)) = ((rng 0 (1 + c % 4 % m).toNat).map fun k => 97 + ((c / 4 + (1 + 2 * (c / 104 % 6)) * k) % 26).toNat).map fun c => ([c] : Tx) by rw [List.map_map]; rfl, joinL_one]
  · refine signs_good (c / 4 % 26).toNat (c / 104 % 6).toNat (1 + c % 4 % m).toNat (by omega) (by omega) (by omega) (by omega) ?_
    unfold rng
    rw [List.map_map]
    refine List.map_congr_left fun k hk => ?_
    have hk4 : k < 4 := by have := List.mem_range.mp hk; omega
    show 97 + ((c / 4 + (1 + 2 * (c / 104 % 6)) * (0 + (k : Int))) % 26).toNat = 97 + ((c / 4 % 26).toNat + k * (1 + 2 * (c / 104 % 6).toNat)) % 26
    obtain ⟨a, ha⟩ : ∃ a : Nat, c / 4 % 26 = (a : Int) := ⟨(c / 4 % 26).toNat, by omega⟩
    obtain ⟨st, hst⟩ : ∃ s : Nat, c / 104 % 6 = (s : Int) := ⟨(c / 104 % 6).toNat, by omega⟩
    rw [ha, hst, Int.toNat_natCast, Int.toNat_natCast]
    rcases (by omega : k = 0 ∨ k = 1 ∨ k = 2 ∨ k = 3) with rfl | rfl | rfl | rfl <;> omega
theorem ok_law_names (T : Txt K mg) : Has P w K mg base 1 "_law_names" ["_law_cell_here"] names32S := by
  refine Has.of (k := 0) T.f_law_names sc_law_names (fun A Q R ⟨c, e, _⟩ => by rw [e]; rfl) fun f cdv A outer s0 H E hr Γ Q R ⟨c, e, hq⟩ => ?_
  subst e
  have a1 := Int.emod_nonneg c (by decide : (4 : Int) ≠ 0)
  have a2 := Int.emod_lt_of_pos c (by decide : (0 : Int) < 4)
  have a3 := Int.emod_nonneg (c / 16) (by decide : (6 : Int) ≠ 0)
  have a4 := Int.emod_lt_of_pos (c / 16) (by decide : (0 : Int) < 6)
  refine st_set 1 (x := capTx) (ev_str "ABCDEFGHIJKLMNOPQRSTUVWXYZ") ?_ sc_law_names.nd
  refine st_set 2 (x := 1 + c % 4) (ev_bin o_add ev_int (ev_bin (o_mod (by decide)) (ev_var 0) ev_int)) ?_ sc_law_names.nd
  have a5 := Int.emod_nonneg (c / 4) (by omega : 1 + c % 4 ≠ 0)
  have a6 := Int.emod_lt_of_pos (c / 4) (by omega : 0 < 1 + c % 4)
  obtain ⟨at_, hat⟩ : ∃ a : Nat, c / 4 % (1 + c % 4) = (a : Int) := ⟨(c / 4 % (1 + c % 4)).toNat, by omega⟩
  refine st_set 3 (x := ((at_ : Nat) : Int)) (ev_eq (ev_bin (o_mod (y := 1 + c % 4) (by omega)) (ev_bin (o_div divK) (ev_var 0) ev_int) (ev_var 2)) hat) ?_ sc_law_names.nd
  refine st_set 4 (x := 1 + 2 * (c / 16 % 6)) (ev_bin o_add ev_int (ev_bin (o_mul mulL) ev_int (ev_bin (o_mod (by decide)) (ev_bin (o_div divK) (ev_var 0) ev_int) ev_int))) ?_ sc_law_names.nd
  refine st_set 5 (x := (rng 0 (1 + c % 4).toNat).map fun k => capI (c / 96 + 5 * k)) (ev_eq (ev_join (xs := (rng 0 (1 + c % 4).toNat).map fun k => ([capI (c / 96 + 5 * k)] : Tx)) (ev_str "") (ev_of_en (en_lc (α := Int) (β := Tx) (own := [("_law_k", 7)]) (f := fun k => ([capI (c / 96 + 5 * k)] : Tx)) (src_range T.b_range (ev_var 2) (by omega) (by omega)) (tg_name 7) (fun _ _ _ _ _ => pgn 7 sc_law_names.nd) (fun k hk _ _ _ _ _ => ev_ixS (x := capTx) (ev_var 1) (ev_bin (o_mod (by decide)) (ev_bin o_add (ev_bin (o_div divK) (ev_var 0) ev_int) (ev_bin (o_mul mulL) ev_int (ev_var 7))) ev_int) (cap_atI _) (sl_small (by decide))) sc_law_names.nd (ok := bk_law_names (by decide +kernel)) (hz := by rw [rng_len]; exact sl_small (by omega)))) (by
      show _ + _ * 0 ≤ _
      rw [sum_ones, rng_len]; omega)) (by
      show joinL [] _ = _
      rw [show (rng 0 (1 + c % 4).toNat).map (fun k => ([capI (c / 96 + 5 * k)] : Tx)) = ((rng 0 (1 + c % 4).toNat).map fun k => capI (c / 96 + 5 * k)).map fun c => ([c] : Tx) by rw [List.map_map]; rfl, joinL_one])) ?_ sc_law_names.nd
  have hbl : ((rng 0 (1 + c % 4).toNat).map fun k => capI (c / 96 + 5 * k)).length = (1 + c % 4).toNat := by rw [List.length_map, rng_len]
  have hbc : ∀ x ∈ (rng 0 (1 + c % 4).toNat).map (fun k => capI (c / 96 + 5 * k)), x ∈ capTx := fun x hx => by
    obtain ⟨k, _, rfl⟩ := List.mem_map.mp hx
    exact capI_mem _
  generalize (rng 0 (1 + c % 4).toNat).map (fun k => capI (c / 96 + 5 * k)) = bs at hbl hbc
  refine st_setN 6 (xs := ([] : List Tx)) (en_nil Tx) (fun ad => ?_) sc_law_names.nd
  refine st_for (fun m Γ' => ∃ ns : List Tx, Le Γ' [vl c, vl capTx, vl (1 + c % 4), vl ((at_ : Nat) : Int), vl (1 + 2 * (c / 16 % 6)), vl bs, .lst repTx ad ns, .no, .no] ∧ ns.length = m ∧ ∀ n ∈ ns, isName n = true) (src_range (n := 4) T.b_range ev_int (by decide) (by decide)) (tg_name 7) ⟨[], Le.refl, rfl, fun _ z => (List.not_mem_nil z).elim⟩ (fun m x Γ' hm hP => ?_) (fun Γ' hP => ?_) (pgn 7 sc_law_names.nd)
  · obtain ⟨ns, le, hl, hin⟩ := hP
    obtain ⟨hm4, rfl⟩ := rng_get0 hm
    refine st_le (Le.set le 7 _) ?_
    refine st_set 8 (x := ([capI (c / 2496 + (1 + 2 * (c / 16 % 6)) * (m : Int))] : Tx)) (ev_ixS (x := capTx) (ev_var 1) (ev_bin (o_mod (by decide)) (ev_bin o_add (ev_bin (o_div divK) (ev_var 0) ev_int) (ev_bin (o_mul (x := 1 + 2 * (c / 16 % 6)) (y := (m : Int)) (.inl ⟨by omega, by omega⟩)) (ev_var 4) (ev_var 7))) ev_int) (cap_atI _) (sl_small (by decide))) ?_ sc_law_names.nd
    have hcm := capI_mem (c / 2496 + (1 + 2 * (c / 16 % 6)) * (m : Int))
    generalize capI (c / 2496 + (1 + 2 * (c / 16 % 6)) * (m : Int)) = d at hcm
    refine st_append 6 (ad := ad) (xs := ns) (x := bs.take at_ ++ [d] ++ bs.drop (at_ + 1)) (ev_bin (o_addS (x := bs.take at_ ++ [d]) (y := bs.drop (at_ + 1)) (sl_small (by simp; omega))) (ev_bin (o_addS (x := bs.take at_) (y := [d]) (sl_small (by simp; omega))) (ev_eq (ev_sliceS (x := bs) (o1 := none) (o2 := some ((at_ : Nat) : Int)) (ev_var 5) trivial (ev_var 3) (sl_small (by omega))) (cutL_to at_)) (ev_var 8)) (ev_eq (ev_sliceS (x := bs) (o1 := some ((at_ + 1 : Nat) : Int)) (o2 := none) (ev_var 5) (ev_eq (ev_bin o_add (ev_var 3) ev_int) (by omega)) trivial (sl_small (by omega))) (cutL_from (at_ + 1)))) (st_nil ?_) (lt_line (by omega))
    refine ⟨ns ++ [bs.take at_ ++ [d] ++ bs.drop (at_ + 1)], le_cons (le_cons (le_cons (le_cons (le_cons (le_cons (le_cons (le_no (le_no le_nil)))))))), by rw [List.length_append, hl]; rfl, fun n hn => ?_⟩
    rcases List.mem_append.mp hn with hn | hn
    · exact hin n hn
    · rw [List.mem_singleton.mp hn]
      refine name_of (by rw [List.length_append, List.length_append, List.length_singleton]; omega) (by rw [List.length_append, List.length_append, List.length_singleton, List.length_take, List.length_drop]; omega) fun y hy => ?_
      rcases List.mem_append.mp hy with hy | hy
      · rcases List.mem_append.mp hy with hy | hy
        · exact hbc y (List.mem_of_mem_take hy)
        · rw [List.mem_singleton.mp hy]; exact hcm
      · exact hbc y (List.mem_of_mem_drop hy)
  · obtain ⟨ns, le, hl, hin⟩ := hP
    refine st_le le ?_
    exact st_retL 6 (hq ns hl hin)
theorem ok_law_rule (T : Txt K mg) : Has P w K mg base 6 "_law_rule" ["_law_rule_here"] rule32S := by
  refine Has.of T.f_law_rule sc_law_rule (fun A Q R ⟨q, e, _⟩ => by rw [e]; rfl) fun f cdv A outer s0 H E hr Γ Q R ⟨q, e, hg, hq⟩ => ?_
  subst e
  have hs := RuleD.good_short hg
  obtain ⟨r⟩ := q
  cases r with
  | cell n c s =>
    refine st_if (k := true) (et_eq (et_cmp o_eq (ev_qk (q := ⟨.cell n c s⟩) (ev_var 0) ev_int) ev_int) rfl) (fun _ => ?_) (fun h => nomatch h)
    exact st_retV (ev_good (mkx_cell T hr (ea_cons (x := n) (ev_qn (q := ⟨.cell n c s⟩) (ev_var 0) ev_int) (ea_cons (x := c) (ev_qc (q := ⟨.cell n c s⟩) (ev_var 0) ev_int) (ea_cons (x := s) (ev_q3 (q := ⟨.cell n c s⟩) (ev_var 0) ev_int rfl) ea_nil))) hs.1 hs.2) hg) hq
  | beside n c a b =>
    refine st_if (k := false) (et_eq (et_cmp o_eq (ev_qk (q := ⟨.beside n c a b⟩) (ev_var 0) ev_int) ev_int) rfl) (fun h => nomatch h) (fun _ => st_nil ?_)
    refine st_if (k := true) (et_eq (et_cmp o_eq (ev_qk (q := ⟨.beside n c a b⟩) (ev_var 0) ev_int) ev_int) rfl) (fun _ => ?_) (fun h => nomatch h)
    exact st_retV (ev_good (mkx_beside T hr (ea_cons (x := n) (ev_qn (q := ⟨.beside n c a b⟩) (ev_var 0) ev_int) (ea_cons (x := c) (ev_qc (q := ⟨.beside n c a b⟩) (ev_var 0) ev_int) (ea_cons (x := a) (ev_q3 (q := ⟨.beside n c a b⟩) (ev_var 0) ev_int rfl) (ea_cons (x := b) (ev_q4 (q := ⟨.beside n c a b⟩) (ev_var 0) ev_int rfl) ea_nil)))) hs.1 hs.2.1 hs.2.2) hg) hq
  | above n c a b =>
    refine st_if (k := false) (et_eq (et_cmp o_eq (ev_qk (q := ⟨.above n c a b⟩) (ev_var 0) ev_int) ev_int) rfl) (fun h => nomatch h) (fun _ => st_nil ?_)
    refine st_if (k := false) (et_eq (et_cmp o_eq (ev_qk (q := ⟨.above n c a b⟩) (ev_var 0) ev_int) ev_int) rfl) (fun h => nomatch h) (fun _ => st_nil ?_)
    refine st_if (k := true) (et_eq (et_cmp o_eq (ev_qk (q := ⟨.above n c a b⟩) (ev_var 0) ev_int) ev_int) rfl) (fun _ => ?_) (fun h => nomatch h)
    exact st_retV (ev_good (mkx_above T hr (ea_cons (x := n) (ev_qn (q := ⟨.above n c a b⟩) (ev_var 0) ev_int) (ea_cons (x := c) (ev_qc (q := ⟨.above n c a b⟩) (ev_var 0) ev_int) (ea_cons (x := a) (ev_q3 (q := ⟨.above n c a b⟩) (ev_var 0) ev_int rfl) (ea_cons (x := b) (ev_q4 (q := ⟨.above n c a b⟩) (ev_var 0) ev_int rfl) ea_nil)))) hs.1 hs.2.1 hs.2.2) hg) hq
  | turn n c a t =>
    refine st_if (k := false) (et_eq (et_cmp o_eq (ev_qk (q := ⟨.turn n c a t⟩) (ev_var 0) ev_int) ev_int) rfl) (fun h => nomatch h) (fun _ => st_nil ?_)
    refine st_if (k := false) (et_eq (et_cmp o_eq (ev_qk (q := ⟨.turn n c a t⟩) (ev_var 0) ev_int) ev_int) rfl) (fun h => nomatch h) (fun _ => st_nil ?_)
    refine st_if (k := false) (et_eq (et_cmp o_eq (ev_qk (q := ⟨.turn n c a t⟩) (ev_var 0) ev_int) ev_int) rfl) (fun h => nomatch h) (fun _ => st_nil ?_)
    exact st_retV (ev_good (mkx_turn T hr (ea_cons (x := n) (ev_qn (q := ⟨.turn n c a t⟩) (ev_var 0) ev_int) (ea_cons (x := c) (ev_qc (q := ⟨.turn n c a t⟩) (ev_var 0) ev_int) (ea_cons (x := a) (ev_q3 (q := ⟨.turn n c a t⟩) (ev_var 0) ev_int rfl) (ea_cons (x := t) (ev_q4 (q := ⟨.turn n c a t⟩) (ev_var 0) ev_int rfl) ea_nil)))) hs.1 hs.2) hg) hq
theorem ok_law_grammar (T : Txt K mg) : Has P w K mg base 8 "_law_grammar" ["_law_signs_here", "_law_start", "_law_rules"] gram32S := by
  refine Has.of T.f_law_grammar sc_law_grammar (fun A Q R ⟨signs, st, rules, e, _⟩ => by rw [e]; rfl) fun f cdv A outer s0 H E hr Γ Q R ⟨signs, st, rules, e, l1, l2, l3, hg, hw, hq⟩ => ?_
  subst e
  exact st_retV (ev_mkG T hr (ea_cons (ev_var 0) (ea_cons (ev_var 1) (ea_cons (x := rules.map RowQ.r) (ev_of_en (en_lc (α := RowQ) (β := RuleD) (own := [("_law_rule_here", 3)]) (f := RowQ.r) (src_list (ev_var 2)) (tg_name 3) (fun _ _ _ _ _ => pgn 3 sc_law_grammar.nd)
    (fun q hq' _ _ _ _ _ => ev_call (x := q.r) (ok_law_rule T) (hr.mono (by decide)) (ea_cons (ev_var 3) ea_nil) fun P R h => ⟨q, rfl, hg q hq', h⟩) sc_law_grammar.nd (ok := bk_law_grammar (by decide +kernel)) (hz := sl_small (by omega)))) ea_nil))) (fun r hr' => by obtain ⟨q, hq', rfl⟩ := List.mem_map.mp hr'; exact hg q hq') hw (by omega) (by omega) (by rw [List.length_map]; omega)) hq
end
structure Stk4 where
  t : Tr
  n : Tx
  p : Pic
  c : Int
noncomputable def Stk4.d (s : Stk4) : Dy := .t [s.t.d, .s s.n, .l (s.p.map .s), .i s.c]
noncomputable instance repStk4 : Rep Stk4 := repOfD Stk4.d
noncomputable instance isdStk4 : IsD Stk4 := ⟨Stk4.d, Iff.rfl⟩
noncomputable def Stk4.full (s : Stk4) : Stk := ⟨s.t, s.n, s.p, s.c, (s.t.size : Int), (s.t.dep : Int)⟩
section
variable {X : Cx} {Γ : List Slot} {pos p p2 : Pos} {e a b : Expr} {q : Stk4} {r : RowQ}
theorem ev_4t (h : EV X Γ e q) (hi : EV X Γ b (0 : Int)) (hp : autoParam (PlainIx b) Tw.aIR2) : EV X Γ (.Subscript e b pos) q.t := ev_ixY (α := Stk4) (β := Tr) h hi rfl (atI_nat (j := 0) rfl) hp
theorem ev_4n (h : EV X Γ e q) (hi : EV X Γ b (1 : Int)) (hp : autoParam (PlainIx b) Tw.aIR2) : EV X Γ (.Subscript e b pos) q.n := ev_ixY (α := Stk4) (β := Tx) h hi rfl (atI_nat (j := 1) rfl) hp
theorem ev_4p (h : EV X Γ e q) (hi : EV X Γ b (2 : Int)) (hp : autoParam (PlainIx b) Tw.aIR2) : EV X Γ (.Subscript e b pos) q.p := ev_ixY (α := Stk4) (β := Pic) h hi rfl (atI_nat (j := 2) rfl) hp
theorem ev_4c (h : EV X Γ e q) (hi : EV X Γ b (3 : Int)) (hp : autoParam (PlainIx b) Tw.aIR2) : EV X Γ (.Subscript e b pos) q.c := ev_ixY (α := Stk4) (β := Int) h hi rfl (atI_nat (j := 3) rfl) hp
theorem ev_qtail (h : EV X Γ e r) (hl : EV X Γ a (2 : Int)) : EV X Γ (.Subscript e (.Slice (some a) none none p2) pos) (Tup.mk (Dy.i r.r.kdI :: r.r.tl2)) := by
  have h1 := ev_sliceT (p2 := p2) (pos := pos) (lo := some a) (hi := none) (o1 := some ((2 : Nat) : Int)) (o2 := none) (ev_t (xs := .s r.r.name :: .i r.r.cost :: .i r.r.kdI :: r.r.tl2) (ev_d h)) hl trivial (whole_no 2 none (by decide) (by simp))
  rw [cutL_from] at h1
  exact h1
end
theorem tl2_shp {r : RuleD} (h : r.good = true) : (Dy.t (Dy.i r.kdI :: r.tl2)).Shp := by
  have hs : ∀ x : Tx, TxOk x → (Dy.s x).okc ∧ (Dy.s x).dep = 0 := fun x hx => by rw [Dy.okc, Dy.dep]; exact ⟨hx, rfl⟩
  have hi : ∀ x : Int, (Dy.i x).okc ∧ (Dy.i x).dep = 0 := fun x => by rw [Dy.okc, Dy.dep]; exact ⟨trivial, rfl⟩
  have hx : ∀ x ∈ Dy.i r.kdI :: r.tl2, x.okc ∧ x.dep = 0 := by
    cases r with
    | cell n c s =>
      simp only [RuleD.good, Bool.and_eq_true] at h
      intro x hx
      simp only [RuleD.tl2, List.mem_cons, List.not_mem_nil, or_false] at hx
      rcases hx with rfl | rfl | rfl
      · exact hi _
      · refine hs _ fun d hd => ?_
        have h1 := h.1
        unfold signOk at h1
        simp only [Bool.and_eq_true, List.all_eq_true, decide_eq_true_eq] at h1
        have := small_lt d (h1.2 d hd)
        omega
      · exact hs _ fun d hd => (List.not_mem_nil hd).elim
    | beside n c a b =>
      simp only [RuleD.good, Bool.and_eq_true] at h
      intro x hx
      simp only [RuleD.tl2, List.mem_cons, List.not_mem_nil, or_false] at hx
      rcases hx with rfl | rfl | rfl
      · exact hi _
      · exact hs _ (isName_ok h.2.1)
      · exact hs _ (isName_ok h.2.2)
    | above n c a b =>
      simp only [RuleD.good, Bool.and_eq_true] at h
      intro x hx
      simp only [RuleD.tl2, List.mem_cons, List.not_mem_nil, or_false] at hx
      rcases hx with rfl | rfl | rfl
      · exact hi _
      · exact hs _ (isName_ok h.2.1)
      · exact hs _ (isName_ok h.2.2)
    | turn n c a t =>
      simp only [RuleD.good, Bool.and_eq_true] at h
      intro x hx
      simp only [RuleD.tl2, List.mem_cons, List.not_mem_nil, or_false] at hx
      rcases hx with rfl | rfl | rfl
      · exact hi _
      · exact hs _ (isName_ok h.2.2)
      · exact hi _
  refine ⟨?_, ?_⟩
  · rw [Dy.okc, Dy.okcs_iff]; exact fun x hx' => (hx x hx').1
  · rw [Dy.dep]
    have : Dy.deps (Dy.i r.kdI :: r.tl2) ≤ 0 := Dy.deps_le fun x hx' => Nat.le_of_eq (hx x hx').2
    omega
theorem alikeQ {r r' : RuleD} (h : Dy.t (Dy.i r'.kdI :: r'.tl2) = Dy.t (Dy.i r.kdI :: r.tl2)) : AlikeR r r' := by
  have h := Dy.t.inj h
  obtain ⟨h1, h2⟩ := List.cons.inj h
  have h1 := Dy.i.inj h1
  cases r <;> cases r' <;> first | (exfalso; revert h1; simp [RuleD.kdI]; done) | (cases h2; exact ⟨rfl, fun _ => rfl⟩)
noncomputable def joinQ (s : Bool) (p q : Pic) (m : Int) : Option Pic := if (s && (decide (p.length = q.length) && decide (((p.headD []).length : Int) + ((q.headD []).length : Int) ≤ m))) = true then some (putT true p q) else
  if (!s && (decide ((p.headD []).length = (q.headD []).length) && decide ((p.length : Int) + (q.length : Int) ≤ m))) = true then some (putT false p q) else none
theorem joinQ_made {p q r : Pic} {s : Bool} {m : Int} (hm : m ≤ 6) (h : joinQ s p q m = some r) (n : Tx) (c : Int) (a b : Tx) : (s = true → (RuleD.beside n c a b).made [p, q] = some r) ∧ (s = false → (RuleD.above n c a b).made [p, q] = some r) := by
  unfold joinQ at h
  cases s with
  | true =>
    refine ⟨fun _ => ?_, fun z => by cases z⟩
    rw [Bool.true_and] at h
    split at h
    · rename_i hc
      rw [Bool.and_eq_true, decide_eq_true_eq, decide_eq_true_eq] at hc
      simp only [RuleD.made]
      rw [show fitsP true (List.getD [p, q] 0 []) (List.getD [p, q] 1 []) = true from by
        show (decide (p.length = q.length) && decide ((p.headD []).length + (q.headD []).length ≤ 6)) = true
        rw [decide_eq_true hc.1, decide_eq_true (by omega)]; rfl, if_pos rfl]
      exact h
    · simp at h
  | false =>
    refine ⟨fun z => (by cases z), fun _ => ?_⟩
    rw [if_neg (by simp)] at h
    split at h
    · rename_i hc
      rw [Bool.not_false, Bool.true_and, Bool.and_eq_true, decide_eq_true_eq, decide_eq_true_eq] at hc
      simp only [RuleD.made]
      rw [show fitsP false (List.getD [p, q] 0 []) (List.getD [p, q] 1 []) = true from by
        show (decide ((p.headD []).length = (q.headD []).length) && decide (p.length + q.length ≤ 6)) = true
        rw [decide_eq_true hc.1, decide_eq_true (by omega)]; rfl, if_pos rfl]
      exact h
    · cases h
noncomputable def InR (rs : List RuleD) (n : Int) : Prop := (decide (n < 0) || decide ((rs.length : Int) ≤ n)) = false
structure NodeOk (rs : List RuleD) (s : Stk4) : Prop where
  gd : StkGood rs s.full
  pin : PicIn s.p
theorem NodeOk.app {rs q : List RuleD} {s : Stk4} (h : NodeOk rs s) : NodeOk (rs ++ q) s := ⟨h.gd.app, h.pin⟩
set_option genInjectivity true in
inductive GT (rs : List RuleD) : Stk4 → Prop where
  | cell {i : Int} {n : Tx} {co : Int} {s : Tx} (h : InR rs i) (e : ruleAt rs i = .cell n co s) (g : NodeOk rs ⟨.node i [], n, [s], co⟩) : GT rs ⟨.node i [], n, [s], co⟩
  | turn {i : Int} {n : Tx} {co tn : Int} {q : Stk4} (h : InR rs i) (e : ruleAt rs i = .turn n co q.n tn) (b : GT rs q) (g : NodeOk rs ⟨.node i [q.t], n, turned q.p tn.toNat, co + q.c⟩) : GT rs ⟨.node i [q.t], n, turned q.p tn.toNat, co + q.c⟩
  | two {i : Int} {n : Tx} {co : Int} {q1 q2 : Stk4} (s : Bool) (h : InR rs i) (e : ruleAt rs i = if s then .beside n co q1.n q2.n else .above n co q1.n q2.n) (b1 : GT rs q1) (b2 : GT rs q2) (f : fitsP s q1.p q2.p = true) (g : NodeOk rs ⟨.node i [q1.t, q2.t], n, putT s q1.p q2.p, co + (q1.c + q2.c)⟩) : GT rs ⟨.node i [q1.t, q2.t], n, putT s q1.p q2.p, co + (q1.c + q2.c)⟩
theorem GT.app {rs q : List RuleD} {s : Stk4} (h : GT rs s) : GT (rs ++ q) s := by
  induction h with
  | cell h e g => exact .cell (ruleAt_app h).2 ((ruleAt_app h).1.trans e) g.app
  | turn h e b g ih => exact .turn (ruleAt_app h).2 ((ruleAt_app h).1.trans e) ih g.app
  | two s h e b1 b2 f g ih1 ih2 => exact .two s (ruleAt_app h).2 ((ruleAt_app h).1.trans e) ih1 ih2 f g.app
theorem GT.node {rs : List RuleD} {n : Int} {parts : List Stk4} {p : Pic} {c : Int} {r w : RuleD} (hn : InR rs n) (hr : ruleAt rs n = r) (hb : ∀ s ∈ parts, GT rs s) (hal : AlikeR w r) (hp : w.parts = parts.map Stk4.n) (hm : w.made (parts.map Stk4.p) = some p)
    (hc : c = r.cost + (parts.map Stk4.c).sum) (g : NodeOk rs ⟨.node n (parts.map Stk4.t), r.name, p, c⟩) : GT rs ⟨.node n (parts.map Stk4.t), r.name, p, c⟩ := by
  rw [← hal.pt] at hp
  rw [← hal.md] at hm
  subst hc
  cases r with
  | cell n' co s =>
    have hp0 : parts = [] := by
      have hp : [] = parts.map Stk4.n := hp
      cases parts with
      | nil => rfl
      | cons x l => cases hp
    subst hp0
    cases hm
    have e : (RuleD.cell n' co s).cost + (([] : List Stk4).map Stk4.c).sum = co := by show co + 0 = co; omega
    rw [e] at g ⊢
    exact .cell hn hr g
  | turn n' co a tn =>
    have hp : [a] = parts.map Stk4.n := hp
    obtain ⟨q, rfl⟩ := one_of (xs := parts) (by have := congrArg List.length hp; rw [List.length_map] at this; exact this.symm)
    obtain rfl : a = q.n := (List.cons.inj hp).1
    cases hm
    have e : (RuleD.turn n' co q.n tn).cost + ([q].map Stk4.c).sum = co + q.c := by show co + (q.c + 0) = _; omega
    rw [e] at g ⊢
    exact .turn hn hr (hb q (List.mem_singleton.mpr rfl)) g
  | beside n' co a b =>
    have hp : [a, b] = parts.map Stk4.n := hp
    obtain ⟨q1, q2, rfl⟩ := two_of (xs := parts) (by have := congrArg List.length hp; rw [List.length_map] at this; exact this.symm)
    obtain rfl : a = q1.n := (List.cons.inj hp).1
    obtain rfl : b = q2.n := (List.cons.inj (List.cons.inj hp).2).1
    have hm : (if fitsP true q1.p q2.p = true then some (putT true q1.p q2.p) else none) = some p := hm
    split at hm
    · rename_i f
      cases hm
      have e : (RuleD.beside n' co q1.n q2.n).cost + ([q1, q2].map Stk4.c).sum = co + (q1.c + q2.c) := by show co + (q1.c + (q2.c + 0)) = _; omega
      rw [e] at g ⊢
      exact .two true hn hr (hb q1 (by simp)) (hb q2 (by simp)) f g
    · cases hm
  | above n' co a b =>
    have hp : [a, b] = parts.map Stk4.n := hp
    obtain ⟨q1, q2, rfl⟩ := two_of (xs := parts) (by have := congrArg List.length hp; rw [List.length_map] at this; exact this.symm)
    obtain rfl : a = q1.n := (List.cons.inj hp).1
    obtain rfl : b = q2.n := (List.cons.inj (List.cons.inj hp).2).1
    have hm : (if fitsP false q1.p q2.p = true then some (putT false q1.p q2.p) else none) = some p := hm
    split at hm
    · rename_i f
      cases hm
      have e : (RuleD.above n' co q1.n q2.n).cost + ([q1, q2].map Stk4.c).sum = co + (q1.c + q2.c) := by show co + (q1.c + (q2.c + 0)) = _; omega
      rw [e] at g ⊢
      exact .two false hn hr (hb q1 (by simp)) (hb q2 (by simp)) f g
    · cases hm
structure Good4 (rs : List RuleD) (names : List Tx) (lim : Int) (s : Stk4) : Prop where
  gd : StkGood rs s.full
  pin : PicIn s.p
  pok : PicOk s.p
  nm : s.n ∈ names
  c16 : s.c ≤ lim
  gt : GT rs s
structure GrownQ (names : List Tx) (signs : Tx) (lim : Int) (rules : List RowQ) (stock : List Stk4) : Prop where
  rs : ∀ q ∈ rules, DrawnQ names signs q.r
  st : ∀ s ∈ stock, Good4 (rules.map RowQ.r) names lim s
structure NotedOk (rules : List RowQ) (wanted : RowQ) (n : Int) (rules' : List RowQ) : Prop where
  ex : ∃ (k : Nat) (q : RowQ), n = (k : Int) ∧ rules'[k]? = some q ∧ AlikeR wanted.r q.r ∧ (rules' = rules ∨ rules' = rules ++ [wanted])
noncomputable def turnedQS : Tw.Spec := fun A P _ => ∃ (p : Pic) (t : Int), A = [vl p, vl t] ∧ PicIn p ∧ 0 ≤ t ∧ P (rv (turned p t.toNat))
noncomputable def joinedS : Tw.Spec := fun A P _ => ∃ (p q : Pic) (s : Bool) (m : Int), A = [vl p, vl q, vl s, vl m] ∧ PicIn p ∧ PicIn q ∧ P (rv (joinQ s p q m))
noncomputable def notedS : Tw.Spec := fun A P _ => ∃ (ad : Addr) (rules : List RowQ) (wanted : RowQ) (again : Bool), A = [.lst repRowQ ad rules, vl wanted, vl again] ∧ rules.length ≤ 100 ∧ wanted.r.good = true ∧ (∀ q ∈ rules, q.r.good = true) ∧ ∀ n rules', NotedOk rules wanted n rules' → P (cg n (ownL repRowQ ad rules'))
structure PutOk (names : List Tx) (signs : Tx) (lim : Int) (rules : List RowQ) (stock : List Stk4) (rules' : List RowQ) (stock' : List Stk4) : Prop where
  gr : GrownQ names signs lim rules' stock'
  rl : rules'.length ≤ rules.length + 1
  sl : stock'.length ≤ stock.length + 1
  sg : stock.length ≤ stock'.length
noncomputable def putQS : Tw.Spec := fun A P _ => ∃ (a1 a2 : Addr) (rules : List RowQ) (stock : List Stk4) (wanted : RowQ) (again : Bool) (parts : List Stk4) (pic : Pic) (limit : Int) (names : List Tx) (signs : Tx), A = [.lst repRowQ a1 rules, .lst repStk4 a2 stock, vl wanted, vl again, vl parts, vl ((pic, limit) : Pic × Int)] ∧
  GrownQ names signs limit rules stock ∧ rules.length ≤ 60 ∧ stock.length ≤ 60 ∧ DrawnQ names signs wanted.r ∧ (∀ s ∈ parts, s ∈ stock) ∧ wanted.r.parts = parts.map Stk4.n ∧ wanted.r.made (parts.map Stk4.p) = some pic ∧ 9 ≤ limit ∧ limit ≤ 16 ∧
  ∀ rules' stock', PutOk names signs limit rules stock rules' stock' → (parts = [] → stock'.length = stock.length + 1) → P (.chg repUnit () [ownL repRowQ a1 rules', ownL repStk4 a2 stock'])
section
variable {P : Program} {w : World} {K : PySem.W.Frag} {mg : Str → Option Value} {base : Heap}
theorem ok_law_turned (T : Txt K mg) : Has P w K mg base 1 "_law_turned" ["_law_picture", "_law_t"] turnedQS := by
  refine Has.of (k := 0) T.f_law_turned sc_law_turned (fun A Q R ⟨p, t, e, _⟩ => by rw [e]; rfl) fun f cdv A outer s H E hr Γ Q R ⟨p, t, e, ⟨r, c, hp⟩, ht, hq⟩ => ?_
  subst e
  have hc6 := hp.c6
  have hr6 := hp.r6
  refine st_ifJ (ι := Pic) (fun q => [vl q, vl t, .no, .no, .no, .no]) (fun q => q = if 4 ≤ t.toNat then mirrored p else p) (k := decide (3 < t)) (et_cmp o_gt (ev_var 1) ev_int) (fun h => ?_) (fun h => st_nil ⟨p, Le.refl, ?_⟩) (fun q eq => ?_)
  · have h := of_decide_eq_true h
    refine st_setLc 0 (α := Tx) (β := Tx) (j := repTx) (own := [("_law_row", 5)]) (f := List.reverse) (src_list (ev_var 0)) (tg_name 5) (fun _ _ _ _ _ => pgn 5 sc_law_turned.nd) (fun x hx _ _ _ _ _ => ev_joinRev T.b_reversed (ev_str "") (ev_var 5) (by rw [hp.row x hx]; omega)) sc_law_turned.nd (by rw [hp.len]; exact sl6 hr6) (fun ad => ?_) (ok := bk_law_turned (by decide +kernel))
    refine st_freeze 0 frozL (st_nil ⟨mirrored p, Le.refl, ?_⟩)
    rw [if_pos (by omega)]
  · have h := of_decide_eq_false h
    rw [if_neg (by omega)]
  obtain ⟨r', c', hq'⟩ : ∃ r' c', Pk q r' c' := by
    rw [eq]; split
    · exact ⟨_, _, hp.mirrored⟩
    · exact ⟨_, _, hp⟩
  refine st_for (xs := rng 0 (t % 4).toNat) (fun k Γ => Le Γ [vl (quarters k q), vl t, .no, .no, .no, .no]) (src_range T.b_range (ev_bin (o_mod (by decide)) (ev_var 1) ev_int) (by omega) (by omega)) (tg_name 2) Le.refl (fun k x Γ' hk le => ?_) (fun Γ' le => ?_) (pgn 2 sc_law_turned.nd)
  · refine st_le (Le.set le 2 _) ?_
    have hk4 := hq'.quarters k
    generalize (if k % 2 = 0 then r' else c') = r2 at hk4
    generalize (if k % 2 = 0 then c' else r') = c2 at hk4
    generalize hqk : quarters k q = z at hk4
    have hz6 := hk4.c6
    have hzr := hk4.r6
    obtain ⟨h0, h1⟩ := hk4.head
    refine st_setN 3 (en_nil Tx) (fun ad => ?_) sc_law_turned.nd
    refine st_for (xs := rng 0 ((z.headD []).length : Int).toNat) (fun m Γ => Le Γ [vl z, vl t, .no, ls ad ((quarter z).take m), .no, .no]) (src_range T.b_range (ev_lenS T.b_len (ev_ixL (ev_var (x := z) 0) ev_int h0) (sl6 (by rw [h1]; exact hk4.c6))) (by omega) (by rw [h1]; omega)) (tg_name 4) (by rw [List.take_zero]; exact le_cons (le_cons (le_no (le_cons (le_no (le_no le_nil)))))) (fun m x Γ' hm le => ?_) (fun Γ' le => ?_) (pgn 4 sc_law_turned.nd)
    · obtain ⟨hlt, rfl⟩ := rng_get0 hm
      refine st_le (Le.set le 4 _) ?_
      have hkc : m < (z.headD []).length := by simpa using hlt
      have hk6 : m < 6 := by omega
      refine st_append 3 (ev_join (ev_str "") (ev_of_en (en_lc (α := Tx) (β := Tx) (own := [("_law_row", 5)]) (f := fun row => [row.getD m 0]) (src_rev T.b_reversed (ev_var 0)) (tg_name 5) (fun _ _ _ _ _ => pgn 5 sc_law_turned.nd)
        (fun x hx _ _ _ _ _ => ev_ixS (ev_var 5) (ev_var 4) ?_ ?_) sc_law_turned.nd (ok := bk_law_turned (by decide +kernel)) (hz := ?_))) ?_) (st_nil ?_) ?_
      · have := hk4.row x (by simpa using hx)
        rw [List.getD_eq_getElem?_getD, List.getElem?_eq_getElem (by omega)]
        exact atI_nat (List.getElem?_eq_getElem (by omega))
      · rw [hk4.row x (by simpa using hx)]; exact sl6 hk4.c6
      · rw [List.length_reverse, hk4.len]; exact sl6 hk4.r6
      · show _ + _ * 0 ≤ _
        rw [sum_ones, List.length_reverse, hk4.len]
        omega
      · have e1 : (quarter z)[m]? = some (z.reverse.map fun row => row.getD m 0) := by
          unfold quarter
          rw [List.getElem?_map, List.getElem?_range hkc]; rfl
        show Le _ _
        rw [take_snoc e1, ← joinOnes]
        exact le_cons (le_cons (le_no (le_cons (le_no (le_no le_nil)))))
      · rw [List.length_take]
        exact lt_line (by omega)
    · rw [rng_len, List.take_of_length_le (by unfold quarter; rw [List.length_map, List.length_range]; omega)] at le
      refine st_le le ?_
      refine st_freeze 3 frozL ?_
      refine st_set 0 (x := quarter z) (ev_var 3) (st_nil ?_) sc_law_turned.nd
      rw [← hqk]
      exact le_cons (le_cons (le_no (le_no (le_no (le_no le_nil)))))
  · refine st_le le ?_
    rw [rng_len]
    refine st_retV (ev_of_en (en_list T.b_list (ev_var 0))) ?_
    unfold turned at hq
    rw [← eq, show t.toNat % 4 = (t % 4).toNat by omega] at hq
    exact hq
theorem ok_law_joined (T : Txt K mg) : Has P w K mg base 1 "_law_joined" ["_law_one", "_law_other", "_law_side", "_law_most"] joinedS := by
  refine Has.of (k := 0) T.f_law_joined sc_law_joined (fun A Q R ⟨p, q, s, m, e, _⟩ => by rw [e]; rfl) fun f cdv A outer s0 H E hr Γ Q R ⟨p, q, s, m, e, ⟨r, c, hp⟩, ⟨r', c', hq'⟩, hq⟩ => ?_
  subst e
  obtain ⟨hp0, hp1⟩ := hp.head
  obtain ⟨hq0, hq1⟩ := hq'.head
  have a1 := hp.r6
  have a2 := hp.c6
  have a3 := hq'.r6
  have a4 := hq'.c6
  have a5 := hp.len
  have a6 := hq'.len
  refine st_if (k := s && (decide (p.length = q.length) && decide (((p.headD []).length : Int) + ((q.headD []).length : Int) ≤ m))) (et_and3 (et_val (ev_var 2)) (fun _ => et_eq (et_cmp o_eq (ev_len T.b_len (ev_var (x := p) 0)) (ev_len T.b_len (ev_var (x := q) 1))) (decide_eq_decide.mpr (by omega))) fun _ _ => et_cmp o_le (ev_bin o_add (ev_lenS T.b_len (ev_ixL (xs := p) (ev_var 0) ev_int hp0) (sl6 (by omega))) (ev_lenS T.b_len (ev_ixL (xs := q) (ev_var 1) ev_int hq0) (sl6 (by omega)))) (ev_var 3)) (fun h => ?_) (fun h => st_nil ?_)
  · unfold joinQ at hq
    rw [if_pos h] at hq
    exact st_retV (ev_some (ev_of_en (en_eq (en_lc (α := Tx × Tx) (β := Tx) (own := [("_law_left", 4), ("_law_right", 5)]) (f := fun x => x.1 ++ x.2) (src_zip T.b_zip (ev_var 0) (ev_var 1)) (tg_pair 4 5 (by decide)) (fun _ _ _ _ _ => pg2 4 5 (pgn 4 sc_law_joined.nd) (pgn 5 sc_law_joined.nd)) (fun x hx _ _ _ _ _ => ev_bin (o_addS (x := x.1) (y := x.2) (by
      have h1 := hp.row x.1 (List.of_mem_zip hx).1
      have h2 := hq'.row x.2 (List.of_mem_zip hx).2
      exact sl_small (by omega))) (ev_var 4) (ev_var 5)) sc_law_joined.nd (ok := bk_law_joined (by decide +kernel)) (hz := by rw [List.length_zip]; exact sl_small (by omega))) (zip_map (fun a b => a ++ b) p q)))) hq
  · unfold joinQ at hq
    rw [if_neg (by rw [h]; decide)] at hq
    refine st_if (k := !s && (decide ((p.headD []).length = (q.headD []).length) && decide ((p.length : Int) + (q.length : Int) ≤ m))) (et_and3 (et_not (et_val (ev_var 2))) (fun _ => et_eq (et_cmp o_eq (ev_lenS T.b_len (ev_ixL (xs := p) (ev_var 0) ev_int hp0) (sl6 (by omega))) (ev_lenS T.b_len (ev_ixL (xs := q) (ev_var 1) ev_int hq0) (sl6 (by omega)))) (decide_eq_decide.mpr (by omega))) fun _ _ => et_cmp o_le (ev_bin o_add (ev_len T.b_len (ev_var (x := p) 0)) (ev_len T.b_len (ev_var (x := q) 1))) (ev_var 3)) (fun h => ?_) (fun h => st_nil ?_)
    · rw [if_pos h] at hq
      exact st_retV (ev_some (ev_of_en (en_addL (ev_of_en (en_list T.b_list (ev_var (x := p) 0))) (ev_of_en (en_list T.b_list (ev_var (x := q) 1))) (sl_small (by omega))))) hq
    · rw [if_neg (by rw [h]; decide)] at hq
      exact st_retV ev_nonO hq
theorem ok_law_noted (T : Txt K mg) : Has P w K mg base 1 "_law_noted" ["_law_rules", "_law_wanted", "_law_again"] notedS := by
  refine Has.of (k := 0) T.f_law_noted sc_law_noted (fun A Q R ⟨ad, rules, wanted, again, e, _⟩ => by rw [e]; rfl) fun f cdv A outer s0 H E hr Γ Q R ⟨ad, rules, wanted, again, e, hl, ht, hg, hq⟩ => ?_
  subst e
  refine st_ifJ (ι := Unit) (fun _ => [.lst repRowQ ad rules, vl wanted, vl again, .no, .no]) (fun _ => True) (k := again) (et_val (ev_var 2)) (fun _ => ?_) (fun _ => st_nil ⟨(), Le.refl, trivial⟩) (fun _ _ => ?_)
  · refine st_forOE 0 (xs := rules) (fun k Γ' => Le Γ' [.lst repRowQ ad rules, vl wanted, vl again, .no, .no]) T.b_enumerate (tg_pair 3 4 (by decide)) Le.refl (fun k Γ' hP => (hP.2 0 _ rfl).resolve_left (fun z => nomatch z)) (fun k q Γ' hk hP => ?_) (fun Γ' hP => ?_) (pg2 3 4 (pgn 3 sc_law_noted.nd) (pgn 4 sc_law_noted.nd))
    · have hqm := hg q (List.mem_of_getElem? hk)
      refine st_le (Le.set (Le.set hP 3 _) 4 _) ?_
      obtain ⟨kb, hkb⟩ : ∃ kb : Bool, (kb = true ↔ Dy.t (Dy.i q.r.kdI :: q.r.tl2) = Dy.t (Dy.i wanted.r.kdI :: wanted.r.tl2)) := by
        by_cases h : Dy.t (Dy.i q.r.kdI :: q.r.tl2) = Dy.t (Dy.i wanted.r.kdI :: wanted.r.tl2)
        · exact ⟨true, by simp [h]⟩
        · exact ⟨false, by simp [h]⟩
      have hm : ∀ r : RuleD, ((Dy.i r.kdI :: r.tl2).map fun x => x) = Dy.i r.kdI :: r.tl2 := fun r => List.map_id' _
      refine st_if (k := kb) (et_cmp (o_eqY (x := Tup.mk (Dy.i q.r.kdI :: q.r.tl2)) (y := Tup.mk (Dy.i wanted.r.kdI :: wanted.r.tl2)) (kb := kb) hr (by show (Dy.t ((Dy.i q.r.kdI :: q.r.tl2).map fun x => x)).Shp; rw [hm]; exact tl2_shp hqm) (by show (Dy.t ((Dy.i wanted.r.kdI :: wanted.r.tl2).map fun x => x)).Shp; rw [hm]; exact tl2_shp ht) (by
        show _ ↔ Dy.t ((Dy.i q.r.kdI :: q.r.tl2).map fun x => x) = Dy.t ((Dy.i wanted.r.kdI :: wanted.r.tl2).map fun x => x)
        rw [hm, hm]; exact hkb)) (ev_qtail (r := q) (ev_var 4) ev_int) (ev_qtail (r := wanted) (ev_var 1) ev_int)) (fun h => ?_) (fun _ => st_nil (st_nil ?_))
      · exact st_retC 0 (ev_var 3) (hq (k : Int) rules ⟨k, q, rfl, hk, alikeQ (hkb.mp h), .inl rfl⟩)
      · exact le_cons (le_cons (le_cons (le_no (le_no le_nil))))
    · exact st_nil ⟨(), hP, trivial⟩
  · refine st_append 0 (ad := ad) (xs := rules) (x := wanted) (ev_var 1) ?_ (lt_line (by omega))
    refine st_retC 0 (x := (rules.length : Int)) (ev_eq (ev_bin o_sub (ev_lend 0 (ev_len T.b_len (ev_var 0))) ev_int) (by rw [List.length_append, List.length_singleton]; omega)) (hq _ _ ⟨rules.length, wanted, rfl, by rw [List.getElem?_append_right (Nat.le_refl _), Nat.sub_self]; rfl, ⟨rfl, fun _ => rfl⟩, .inr rfl⟩)
end
structure DrnQ where
  signs : Tx
  names : List Tx
  dear : Int
  side : Int
  limit : Int
noncomputable instance : HetT DrnQ := ⟨fun x => [vl x.signs, vl x.names, vl x.dear, vl x.side, vl x.limit]⟩
structure DrnOk (d : DrnQ) : Prop where
  sg : signsOk d.signs = true
  n4 : d.names.length = 4
  nm : ∀ n ∈ d.names, isName n = true
  de : 1 ≤ d.dear ∧ d.dear ≤ 9
  si : d.side ≤ 6
  li : 9 ≤ d.limit ∧ d.limit ≤ 16
theorem PutOk.refl {names : List Tx} {signs : Tx} {lim : Int} {rules : List RowQ} {stock : List Stk4} (h : GrownQ names signs lim rules stock) : PutOk names signs lim rules stock rules stock := ⟨h, Nat.le_succ _, Nat.le_succ _, Nat.le_refl _⟩
noncomputable def stepQS : Tw.Spec := fun A P _ => ∃ (a1 a2 : Addr) (rules : List RowQ) (stock : List Stk4) (c : Int) (d : DrnQ), A = [.lst repRowQ a1 rules, .lst repStk4 a2 stock, vl c, vl d] ∧ DrnOk d ∧ GrownQ d.names d.signs d.limit rules stock ∧ rules.length ≤ 50 ∧ stock.length ≤ 50 ∧
  ∀ rules' stock', PutOk d.names d.signs d.limit rules stock rules' stock' → 0 < stock'.length → P (.chg repUnit () [ownL repRowQ a1 rules', ownL repStk4 a2 stock'])
noncomputable def grownQS : Tw.Spec := fun A P _ => ∃ (cells : List Int) (d : DrnQ), A = [vl cells, vl d] ∧ DrnOk d ∧ 1 ≤ cells.length ∧ cells.length ≤ 20 ∧ P (.own fun o => ∃ ad l m rules stock, (GrownQ d.names d.signs d.limit rules stock ∧ rules.length ≤ cells.length ∧ stock.length ≤ cells.length ∧ 0 < stock.length) ∧ o = ownP repRowQ repStk4 ad l m rules stock)
theorem full_maps (parts : List Stk4) : (parts.map Stk4.full).map Stk.t = parts.map Stk4.t ∧ (parts.map Stk4.full).map Stk.n = parts.map Stk4.n ∧ (parts.map Stk4.full).map Stk.p = parts.map Stk4.p ∧ (parts.map Stk4.full).map Stk.c = parts.map Stk4.c := by
  refine ⟨?_, ?_, ?_, ?_⟩ <;> rw [List.map_map] <;> rfl
theorem good_node {rs : List RuleD} {names : List Tx} {lim : Int} {n : Int} {parts : List Stk4} {p : Pic} {c : Int} {r w : RuleD} (hn : (decide (n < 0) || decide ((rs.length : Int) ≤ n)) = false) (hr : ruleAt rs n = r) (hb : ∀ s ∈ parts, Good4 rs names lim s) (hw : w.good = true) (hal : AlikeR w r) (hp : w.parts = parts.map Stk4.n) (hm : w.made (parts.map Stk4.p) = some p)
    (hc : c = r.cost + (parts.map Stk4.c).sum) (hnm : r.name ∈ names) (h16 : c ≤ lim) : Good4 rs names lim ⟨.node n (parts.map Stk4.t), r.name, p, c⟩ := by
  obtain ⟨f1, f2, f3, f4⟩ := full_maps parts
  have hbf : ∀ s ∈ parts.map Stk4.full, StkGood rs s := fun s hs => by
    obtain ⟨x, hx, rfl⟩ := List.mem_map.mp hs
    exact (hb x hx).gd
  have hsz := below_sizes hbf
  have hl : (parts.map Stk4.p).length = w.parts.length := by rw [hp, List.length_map, List.length_map]
  have g := stk_node (rs := rs) (n := n) (below := parts.map Stk4.full) (p := p) (c := c) (m := ((Tr.node n (parts.map Stk4.t)).size : Int)) (d := ((Tr.node n (parts.map Stk4.t)).dep : Int)) (r := r) hn hr hbf (by rw [f2, hal.pt, hp]) (by rw [f3, hal.md]; exact hm) (by rw [f4]; exact hc) (by
    rw [Tr.size]
    rw [f1] at hsz
    omega) (by rw [Tr.dep, f1]; omega)
  rw [f1] at g
  have hpin : PicIn p := made_pic hw hl (fun q hq => by obtain ⟨s, hs, rfl⟩ := List.mem_map.mp hq; exact (hb s hs).pin) hm
  refine ⟨g, hpin, ?_, hnm, h16, GT.node hn hr (fun s hs => (hb s hs).gt) hal hp hm hc ⟨g, hpin⟩⟩
  · exact made_ok hw hl (fun q hq => by obtain ⟨s, hs, rfl⟩ := List.mem_map.mp hq; exact (hb s hs).pok) hm
theorem Good4.app {rs q : List RuleD} {names : List Tx} {lim : Int} {s : Stk4} (h : Good4 rs names lim s) : Good4 (rs ++ q) names lim s := ⟨h.gd.app, h.pin, h.pok, h.nm, h.c16, h.gt.app⟩
section
variable {P : Program} {w : World} {K : PySem.W.Frag} {mg : Str → Option Value} {base : Heap}
theorem ok_law_put (T : Txt K mg) : Has P w K mg base 2 "_law_put" ["_law_rules", "_law_stock", "_law_wanted", "_law_again", "_law_parts", "_law_made"] putQS := by
  refine Has.ofU2 T.f_law_put sc_law_put (fun A Q R ⟨a1, a2, rules, stock, wanted, again, parts, pic, limit, names, signs, e, _⟩ => by rw [e]; rfl) fun f cdv A outer s0 H E hr Γ Q R ⟨a1, a2, rules, stock, wanted, again, parts, pic, limit, names, signs, e, hG, hrl, hsl, hdw, hps, hpn, hmd, hl9, hl16, hq⟩ => ?_
  subst e
  have hpl : parts.length ≤ 2 := by have := RuleD.parts_len wanted.r; rw [hpn, List.length_map] at this; exact this
  refine st_setGE 6 (i := repInt) (G := fun n Γ' => ∃ rules', NotedOk rules wanted n rules' ∧ Γ' = [.lst repRowQ a1 rules', .lst repStk4 a2 stock, vl wanted, vl again, vl parts, vl ((pic, limit) : Pic × Int), .no, .no, .no]) (eg_call 0 (α := Int) (G := fun n o' => ∃ rules', NotedOk rules wanted n rules' ∧ o' = ownL repRowQ a1 rules') (ok_law_noted T) (hr.mono (by decide)) (eab_o 0 (eab_v (ev_var 2) (eab_v (ev_var 3) eab_nil))) rfl rfl (fun n o' ⟨rules', _, e⟩ => by rw [e]; rfl) (fun n o' ⟨rules', hn, e⟩ => ⟨n, ⟨rules', hn, by rw [e]; rfl⟩, rfl⟩) fun P' R' h _ => ⟨a1, rules, wanted, again, rfl, by omega, hdw.good, fun q hq' => (hG.rs q hq').good, fun n rules' hn => h n _ ⟨rules', hn, rfl⟩⟩) (fun n Γ1 ⟨rules', hn, e⟩ => ?_) sc_law_put.nd
  subst e
  obtain ⟨k, q, rfl, hkq, hal, happ⟩ := hn.ex
  have hklt := (List.getElem?_eq_some_iff.mp hkq).1
  have hqm := List.mem_of_getElem? hkq
  have hG' : GrownQ names signs limit rules' stock := by
    rcases happ with rfl | rfl
    · exact hG
    · refine ⟨fun q' hq' => ?_, fun s hs => ?_⟩
      · rcases List.mem_append.mp hq' with h | h
        · exact hG.rs q' h
        · rw [List.mem_singleton.mp h]; exact hdw
      · rw [List.map_append]; exact (hG.st s hs).app
  have hrl' : rules'.length ≤ rules.length + 1 := by
    rcases happ with rfl | rfl
    · omega
    · rw [List.length_append, List.length_singleton]; omega
  have hn1 : (decide ((k : Int) < 0) || decide (((rules'.map RowQ.r).length : Int) ≤ (k : Int))) = false := by
    rw [List.length_map, Bool.or_eq_false_iff]
    exact ⟨decide_eq_false (by omega), decide_eq_false (by omega)⟩
  have hra : ruleAt (rules'.map RowQ.r) (k : Int) = q.r := by
    unfold ruleAt
    rw [List.getD_eq_getElem?_getD, Int.toNat_natCast, List.getElem?_map, hkq]
    rfl
  have hat : atI rules' (k : Int) = some q := atI_nat hkq
  have hdq := hG'.rs q hqm
  have hqc := (RuleD.bounds hdq.good).2
  refine st_set 7 (x := q.r.cost + (parts.map Stk4.c).sum) (ev_bin o_add (ev_qc (q := q) (ev_ixLO (xs := rules') 0 (ev_var 6) hat) ev_int) (ev_sum T.b_sum (ev_of_en (en_lc (α := Stk4) (β := Int) (own := [("_law_part", 8)]) (f := Stk4.c) (src_list (ev_var 4)) (tg_name 8) (fun _ _ _ _ _ => pgn 8 sc_law_put.nd) (fun s hs _ _ _ _ _ => ev_4c (q := s) (ev_var 8) ev_int) sc_law_put.nd (ok := bk_law_put (by decide +kernel)) (hz := sl_small (by omega)))))) ?_ sc_law_put.nd
  refine st_if (k := decide (q.r.cost + (parts.map Stk4.c).sum ≤ limit)) (et_cmp o_le (ev_var 7) (ev_snd (x := ((pic, limit) : Pic × Int)) (ev_var 5))) (fun h => ?_) (fun h => st_nil (st_nil ?_))
  · have h := of_decide_eq_true h
    have hgn := good_node (names := names) hn1 hra (fun s hs => hG'.st s (hps s hs)) hdw.good hal hpn hmd rfl (hdq.nm _ (List.mem_cons_self ..)) h
    refine st_append 1 (ad := a2) (xs := stock) (x := Stk4.mk (.node (k : Int) (parts.map Stk4.t)) q.r.name pic (q.r.cost + (parts.map Stk4.c).sum)) (ev_u (α := Stk4) (ev_ot (xs := [(Tr.node (k : Int) (parts.map Stk4.t)).d, .s q.r.name, .l (pic.map .s), .i (q.r.cost + (parts.map Stk4.c).sum)]) (ev_tupH (es_cons (ev_d (α := Tr) (ev_ofTup (t := Tr.node (k : Int) (parts.map Stk4.t)) (xs := Dy.i (k : Int) :: (parts.map Stk4.t).map Tr.d) (ev_catT (xs := Tup.mk [Dy.i (k : Int)]) (ys := Tup.mk ((parts.map Stk4.t).map Tr.d)) (ev_tupH (es_cons (ev_d (α := Int) (ev_var 6)) es_nil)) (ev_t (ev_d (α := Tup Tr) (ev_tupL T.b_tuple (ev_of_en (en_lc (α := Stk4) (β := Tr) (own := [("_law_part", 8)]) (f := Stk4.t) (src_list (ev_var 4)) (tg_name 8) (fun _ _ _ _ _ => pgn 8 sc_law_put.nd) (fun s hs _ _ _ _ _ => ev_4t (q := s) (ev_var 8) ev_int) sc_law_put.nd (ok := bk_law_put (by decide +kernel)) (hz := sl_small (by omega))))))) (by simp) (sl_small (by simp; omega))) (Tr.d_eq _))) (es_cons (ev_d (α := Tx) (ev_qn (q := q) (ev_ixLO (xs := rules') 0 (ev_var 6) hat) ev_int)) (es_cons (ev_d (α := Pic) (ev_fst (x := ((pic, limit) : Pic × Int)) (ev_var 5))) (es_cons (ev_d (α := Int) (ev_var 7)) es_nil)))) (sl_small (Nat.le_of_ble_eq_true rfl))))) (st_nil (st_nil ?_)) (lt_line (by omega))
    refine ⟨ownL repRowQ a1 rules', _, rfl, rfl, hq rules' _ ⟨⟨hG'.rs, fun s hs => ?_⟩, hrl', by rw [List.length_append, List.length_singleton]; omega, by rw [List.length_append]; omega⟩ fun _ => by rw [List.length_append, List.length_singleton]⟩
    rcases List.mem_append.mp hs with hs | hs
    · exact hG'.st s hs
    · rw [List.mem_singleton.mp hs]; exact hgn
  · have h := of_decide_eq_false h
    refine ⟨ownL repRowQ a1 rules', ownL repStk4 a2 stock, rfl, rfl, hq rules' stock ⟨hG', hrl', Nat.le_succ _, Nat.le_refl _⟩ fun hp => ?_⟩
    subst hp
    simp at h
    omega
theorem ok_law_step (T : Txt K mg) : Has P w K mg base 3 "_law_step" ["_law_rules", "_law_stock", "_law_cell_here", "_law_drawn"] stepQS := by
  refine Has.ofU2 T.f_law_step sc_law_step (fun A Q R ⟨a1, a2, rules, stock, c, d, e, _⟩ => by rw [e]; rfl) fun f cdv A outer s0 H E hr Γ Q R ⟨a1, a2, rules, stock, c, d, e, hd, hG, hrl, hsl, hq⟩ => ?_
  subst e
  obtain ⟨signs, names, dear, side, limit⟩ := d
  obtain ⟨hsg, hn4, hnm, hde, hsi, hli⟩ := hd
  have hsg : signsOk signs = true := hsg
  have hn4 : names.length = 4 := hn4
  have hnm : ∀ n ∈ names, isName n = true := hnm
  have hde : 1 ≤ dear ∧ dear ≤ 9 := hde
  have hsi : side ≤ 6 := hsi
  have hli : 9 ≤ limit ∧ limit ≤ 16 := hli
  have hG : GrownQ names signs limit rules stock := hG
  have hss : 1 ≤ signs.length ∧ signs.length ≤ 4 ∧ ∀ d ∈ signs, d ∈ smallTx := by
    unfold signsOk at hsg
    simp only [Bool.and_eq_true, decide_eq_true_eq, List.all_eq_true] at hsg
    exact ⟨hsg.1.1, hsg.1.2, fun d hd => hsg.2.2 d hd⟩
  obtain ⟨hs1, hs4, hsm⟩ := hss
  refine st_unpack5X 4 5 6 7 8 (x1 := signs) (x2 := names) (x3 := dear) (x4 := side) (x5 := limit) (ev_var (x := DrnQ.mk signs names dear side limit) 3) ?_ (pg5 4 5 6 7 8 (pgn 4 sc_law_step.nd) (pgn 5 sc_law_step.nd) (pgn 6 sc_law_step.nd) (pgn 7 sc_law_step.nd) (pgn 8 sc_law_step.nd))
  have m1 := Int.emod_nonneg c (by decide : (4 : Int) ≠ 0)
  have m2 := Int.emod_lt_of_pos c (by decide : (0 : Int) < 4)
  refine st_set 9 (x := c % 4) (ev_bin (o_mod (by decide)) (ev_var 2) ev_int) ?_ sc_law_step.nd
  generalize hkd : c % 4 = kd at m1 m2
  refine st_set 10 (x := decide (c / 4 % 2 = 0)) (ev_cmp o_eq (ev_bin (o_mod (by decide)) (ev_bin (o_div divK) (ev_var 2) ev_int) ev_int) ev_int) ?_ sc_law_step.nd
  generalize decide (c / 4 % 2 = 0) = again
  obtain ⟨n0, a0, i0⟩ : ∃ n, atI names (c / 8 % 4) = some n ∧ n ∈ names := list_atI (Int.emod_nonneg _ (by decide)) (by have := Int.emod_lt_of_pos (c / 8) (by decide : (0 : Int) < 4); omega)
  refine st_set 11 (x := n0) (ev_ixL (xs := names) (ev_var 5) (ev_bin (o_mod (by decide)) (ev_bin (o_div divK) (ev_var 2) ev_int) ev_int) a0) ?_ sc_law_step.nd
  have k1 := Int.emod_nonneg (c / 32) (by omega : dear ≠ 0)
  have k2 := Int.emod_lt_of_pos (c / 32) (by omega : 0 < dear)
  have ck : costOk (1 + c / 32 % dear) = true := by unfold costOk; rw [decide_eq_true (by omega), decide_eq_true (by omega)]; rfl
  refine st_set 12 (x := 1 + c / 32 % dear) (ev_bin o_add ev_int (ev_bin (o_mod (by omega)) (ev_bin (o_div divK) (ev_var 2) ev_int) (ev_var 6))) ?_ sc_law_step.nd
  generalize 1 + c / 32 % dear = kc at ck
  refine st_set 13 (x := c / 32 / dear) (ev_bin (o_div (divS (by omega) (by omega))) (ev_bin (o_div divK) (ev_var 2) ev_int) (ev_var 6)) ?_ sc_law_step.nd
  generalize c / 32 / dear = rest0
  have g0 := hnm _ i0
  refine st_if (k := decide (kd = 0) || decide (stock.length = 0)) (et_or (et_cmp o_eq (ev_var 9) ev_int) fun _ => et_eq (et_cmp o_eq (ev_lend 1 (ev_len T.b_len (ev_var 1))) ev_int) (decide_eq_decide.mpr (by omega))) (fun h => ?_) (fun h => st_nil ?_)
  · have sm := Int.emod_nonneg rest0 (by omega : (signs.length : Int) ≠ 0)
    have sm2 := Int.emod_lt_of_pos rest0 (by omega : (0 : Int) < signs.length)
    obtain ⟨dd, ad, id⟩ := list_atI (xs := signs) sm sm2
    have gd : signOk [dd] = true := by unfold signOk; rw [decide_eq_true (by rfl), List.all_cons, decide_eq_true (hsm dd id)]; rfl
    refine st_set 14 (x := ([dd] : Tx)) (ev_ixS (ev_var 4) (ev_bin (o_mod (y := (signs.length : Int)) (by omega)) (ev_var 13) (ev_lenS T.b_len (ev_var 4) (sl_small (by omega)))) ad (sl_small (by omega))) ?_ sc_law_step.nd
    refine st_dropG (P := fun r Γ' => ∃ rules' stock', (PutOk names signs limit rules stock rules' stock' ∧ 0 < stock'.length) ∧ Γ' = [.lst repRowQ a1 rules', .lst repStk4 a2 stock', vl c, vl (DrnQ.mk signs names dear side limit), vl signs, vl names, vl dear, vl side, vl limit, vl kd, vl again, vl n0, vl kc, vl rest0, vl ([dd] : Tx), .no, .no, .no, .no, .no]) (eg_call2 0 1 (i := repUnit) (G := fun _ o1 o2 => ∃ rules' stock', (PutOk names signs limit rules stock rules' stock' ∧ 0 < stock'.length) ∧ o1 = ownL repRowQ a1 rules' ∧ o2 = ownL repStk4 a2 stock') (by decide) (ok_law_put T) (hr.mono (by decide)) (eab_o 0 (eab_o 1 (eab_v (x := RowQ.mk (.cell n0 kc [dd])) (ev_u (α := RowQ) (x := ⟨.cell n0 kc [dd]⟩) (ev_ot (ev_tupH (es_cons (ev_d (α := Tx) (ev_var 11)) (es_cons (ev_d (α := Int) (ev_var 12)) (es_cons (ev_d (α := Int) (x := 0) ev_int) (es_cons (ev_d (α := Tx) (ev_var 14)) (es_cons (ev_d (α := Tx) (ev_str "")) es_nil)))))))) (eab_v (ev_var 10) (eab_v (x := ([] : List Stk4)) (ev_of_en (en_nil Stk4)) (eab_v (x := (([[dd]], limit) : Pic × Int)) (ev_pair (ev_of_en (en_lst (es_cons (ev_var 14) es_nil))) (ev_var 8)) eab_nil)))))) rfl rfl rfl (fun _ o1 o2 ⟨_, _, _, e1, e2⟩ => by rw [e1, e2]; exact ⟨rfl, rfl⟩) (fun _ o1 o2 ⟨r', s', hp, e1, e2⟩ => ⟨r', s', hp, by rw [e1, e2]; rfl⟩)
      fun P' R' h' => ⟨a1, a2, rules, stock, ⟨.cell n0 kc [dd]⟩, again, [], [[dd]], limit, names, signs, rfl, hG, by omega, by omega, ⟨by show RuleD.good (.cell n0 kc [dd]) = true; simp only [RuleD.good, gd, ck, g0]; rfl, ⟨dd, id, rfl⟩, fun n hn => by
        simp only [RuleD.name, RuleD.parts, List.mem_cons, List.not_mem_nil, or_false] at hn
        rw [hn]; exact i0⟩, fun _ z => (List.not_mem_nil z).elim, rfl, rfl, hli.1, hli.2, fun r' s' hp hz => h' () _ _ ⟨r', s', ⟨hp, by rw [hz rfl]; omega⟩, rfl, rfl⟩⟩) (fun r Γ' hΓ => ?_) (fun _ _ z => z.elim)
    obtain ⟨r', s', ⟨hp, h0⟩, rfl⟩ := hΓ
    exact st_retU2 0 1 (by decide) (hq r' s' hp h0)
  rw [Bool.or_eq_false_iff, decide_eq_false_iff_not, decide_eq_false_iff_not] at h
  have hsp : 0 < stock.length := by omega
  have fin0 : Q (.chg repUnit () [ownL repRowQ a1 rules, ownL repStk4 a2 stock]) := hq rules stock (PutOk.refl hG) hsp
  have hput : ∀ r' s', PutOk names signs limit rules stock r' s' → Q (.chg repUnit () [ownL repRowQ a1 r', ownL repStk4 a2 s']) := fun r' s' hp => hq r' s' hp (by have := hp.sg; omega)
  obtain ⟨one, ao, io⟩ := list_atI (xs := stock) (Int.emod_nonneg rest0 (by omega : (stock.length : Int) ≠ 0)) (Int.emod_lt_of_pos rest0 (by omega : (0 : Int) < stock.length))
  have ho := hG.st one io
  refine st_set 15 (x := one) (ev_ixLO (xs := stock) 1 (ev_bin (o_mod (y := (stock.length : Int)) (by omega)) (ev_var 13) (ev_lend 1 (ev_len T.b_len (ev_var 1)))) ao) ?_ sc_law_step.nd
  refine st_set 13 (x := rest0 / (stock.length : Int)) (ev_bin (o_div (divS (j := (stock.length : Int)) (by omega) (by omega))) (ev_var 13) (ev_lend 1 (ev_len T.b_len (ev_var 1)))) ?_ sc_law_step.nd
  generalize rest0 / (stock.length : Int) = rest
  refine st_if (k := decide (kd = 3)) (et_cmp o_eq (ev_var 9) ev_int) (fun h3 => ?_) (fun h3 => st_nil ?_)
  · have t1 := Int.emod_nonneg rest (by decide : (8 : Int) ≠ 0)
    have t2 := Int.emod_lt_of_pos rest (by decide : (0 : Int) < 8)
    refine st_set 16 (x := ((turned one.p (rest % 8).toNat, limit) : Pic × Int)) (ev_pair (ev_call (x := turned one.p (rest % 8).toNat) (ok_law_turned T) (hr.mono (by decide)) (ea_cons (x := one.p) (ev_4p (q := one) (ev_var 15) ev_int) (ea_cons (x := rest % 8) (ev_bin (o_mod (by decide)) (ev_var 13) ev_int) ea_nil)) fun P' R' h' => ⟨one.p, rest % 8, rfl, ho.pin, t1, h'⟩) (ev_var 8)) ?_ sc_law_step.nd
    have hgr : (RuleD.turn n0 kc one.n (rest % 8)).good = true := by
      simp only [RuleD.good, ck, g0, hnm _ ho.nm]
      rw [decide_eq_true (by omega), decide_eq_true (by omega)]; rfl
    refine st_dropG (P := fun r Γ' => ∃ rules' stock', PutOk names signs limit rules stock rules' stock' ∧ Γ' = [.lst repRowQ a1 rules', .lst repStk4 a2 stock', vl c, vl (DrnQ.mk signs names dear side limit), vl signs, vl names, vl dear, vl side, vl limit, vl kd, vl again, vl n0, vl kc, vl rest, .no, vl one, vl ((turned one.p (rest % 8).toNat, limit) : Pic × Int), .no, .no, .no]) (eg_call2 0 1 (i := repUnit) (G := fun _ o1 o2 => ∃ rules' stock', PutOk names signs limit rules stock rules' stock' ∧ o1 = ownL repRowQ a1 rules' ∧ o2 = ownL repStk4 a2 stock') (by decide) (ok_law_put T) (hr.mono (by decide)) (eab_o 0 (eab_o 1 (eab_v (x := RowQ.mk (.turn n0 kc one.n (rest % 8))) (ev_u (α := RowQ) (x := ⟨.turn n0 kc one.n (rest % 8)⟩) (ev_ot (ev_tupH (es_cons (ev_d (α := Tx) (ev_var 11)) (es_cons (ev_d (α := Int) (ev_var 12)) (es_cons (ev_d (α := Int) (x := 3) ev_int) (es_cons (ev_d (α := Tx) (x := one.n) (ev_4n (q := one) (ev_var 15) ev_int)) (es_cons (ev_d (α := Int) (x := rest % 8) (ev_bin (o_mod (by decide)) (ev_var 13) ev_int)) es_nil)))))))) (eab_v (ev_var 10) (eab_v (x := [one]) (ev_of_en (en_lst (es_cons (ev_var 15) es_nil))) (eab_v (ev_var 16) eab_nil)))))) rfl rfl rfl (fun _ o1 o2 ⟨_, _, _, e1, e2⟩ => by rw [e1, e2]; exact ⟨rfl, rfl⟩) (fun _ o1 o2 ⟨r', s', hp, e1, e2⟩ => ⟨r', s', hp, by rw [e1, e2]; rfl⟩)
      fun P' R' h' => ⟨a1, a2, rules, stock, ⟨.turn n0 kc one.n (rest % 8)⟩, again, [one], _, limit, names, signs, rfl, hG, by omega, by omega, ⟨hgr, trivial, fun n hn => by
        simp only [RuleD.name, RuleD.parts, List.mem_cons, List.not_mem_nil, or_false] at hn
        rcases hn with rfl | rfl
        · exact i0
        · exact ho.nm⟩, fun s hs => by rw [List.mem_singleton.mp hs]; exact io, rfl, rfl, hli.1, hli.2, fun r' s' hp _ => h' () _ _ ⟨r', s', hp, rfl, rfl⟩⟩) (fun r Γ' hΓ => ?_) (fun _ _ z => z.elim)
    obtain ⟨r', s', hp, rfl⟩ := hΓ
    exact st_retU2 0 1 (by decide) (hput r' s' hp)
  have h3 := of_decide_eq_false h3
  obtain ⟨oth, at_, it⟩ := list_atI (xs := stock) (Int.emod_nonneg rest (by omega : (stock.length : Int) ≠ 0)) (Int.emod_lt_of_pos rest (by omega : (0 : Int) < stock.length))
  have ht := hG.st oth it
  refine st_set 17 (x := oth) (ev_ixLO (xs := stock) 1 (ev_bin (o_mod (y := (stock.length : Int)) (by omega)) (ev_var 13) (ev_lend 1 (ev_len T.b_len (ev_var 1)))) at_) ?_ sc_law_step.nd
  refine st_for (xs := [kd, 3 - kd]) (fun m Γ' => Le Γ' [.lst repRowQ a1 rules, .lst repStk4 a2 stock, vl c, vl (DrnQ.mk signs names dear side limit), vl signs, vl names, vl dear, vl side, vl limit, vl kd, vl again, vl n0, vl kc, vl rest, .no, vl one, .no, vl oth, .no, .no]) (src_tup (xs := Tup.mk [kd, 3 - kd]) (ev_tupH (es_cons (ev_var 9) (es_cons (ev_bin o_sub ev_int (ev_var 9)) es_nil)))) (tg_name 18) Le.refl (fun m way Γ' hm le => ?_) (fun Γ' le => ?_) (pgn 18 sc_law_step.nd)
  · have hway : way = 1 ∨ way = 2 := by
      have := List.mem_of_getElem? hm
      simp only [List.mem_cons, List.not_mem_nil, or_false] at this
      omega
    refine st_le (Le.set le 18 _) ?_
    refine st_set 19 (x := joinQ (decide (way = 1)) one.p oth.p side) (ev_call (ok_law_joined T) (hr.mono (by decide)) (ea_cons (x := one.p) (ev_4p (q := one) (ev_var 15) ev_int) (ea_cons (x := oth.p) (ev_4p (q := oth) (ev_var 17) ev_int) (ea_cons (x := decide (way = 1)) (ev_cmp o_eq (ev_var 18) ev_int) (ea_cons (ev_var 7) ea_nil)))) fun P' R' h' => ⟨one.p, oth.p, _, side, rfl, ho.pin, ht.pin, h'⟩) ?_ sc_law_step.nd
    cases hj : joinQ (decide (way = 1)) one.p oth.p side with
    | none =>
      refine st_if (k := false) (et_cmp (o_notO (α := Pic) (x := none)) (ev_var 19) ev_non) (fun h => nomatch h) (fun _ => st_nil (st_nil ?_))
      exact le_cons (le_cons (le_cons (le_cons (le_cons (le_cons (le_cons (le_cons (le_cons (le_cons (le_cons (le_cons (le_cons (le_cons (le_no (le_cons (le_no (le_cons (le_no (le_no le_nil)))))))))))))))))))
    | some pic =>
      have hmk := joinQ_made hsi hj n0 kc one.n oth.n
      refine st_if (k := true) (et_cmp (o_notO (α := Pic) (x := some pic)) (ev_var 19) ev_non) (fun _ => ?_) (fun h => nomatch h)
      have go : ∀ r : RuleD, (r = .beside n0 kc one.n oth.n ∧ way = 1) ∨ (r = .above n0 kc one.n oth.n ∧ way = 2) → DrawnQ names signs r ∧ r.parts = [one, oth].map Stk4.n ∧ r.made ([one, oth].map Stk4.p) = some pic ∧ (RowQ.mk r).d = .t [.s n0, .i kc, .i way, .s one.n, .s oth.n] := fun r hr' => by
        rcases hr' with ⟨rfl, rfl⟩ | ⟨rfl, rfl⟩
        · refine ⟨⟨by simp only [RuleD.good, ck, g0, hnm _ ho.nm, hnm _ ht.nm]; rfl, trivial, fun n hn => ?_⟩, rfl, hmk.1 rfl, rfl⟩
          simp only [RuleD.name, RuleD.parts, List.mem_cons, List.not_mem_nil, or_false] at hn
          rcases hn with rfl | rfl | rfl
          · exact i0
          · exact ho.nm
          · exact ht.nm
        · refine ⟨⟨by simp only [RuleD.good, ck, g0, hnm _ ho.nm, hnm _ ht.nm]; rfl, trivial, fun n hn => ?_⟩, rfl, hmk.2 rfl, rfl⟩
          simp only [RuleD.name, RuleD.parts, List.mem_cons, List.not_mem_nil, or_false] at hn
          rcases hn with rfl | rfl | rfl
          · exact i0
          · exact ho.nm
          · exact ht.nm
      obtain ⟨r, hrr⟩ : ∃ r, (r = RuleD.beside n0 kc one.n oth.n ∧ way = 1) ∨ (r = RuleD.above n0 kc one.n oth.n ∧ way = 2) := by
        rcases hway with h | h
        · exact ⟨_, .inl ⟨rfl, h⟩⟩
        · exact ⟨_, .inr ⟨rfl, h⟩⟩
      obtain ⟨r1, r2, r3, r4⟩ := go r hrr
      refine st_dropG (P := fun _ Γ' => ∃ rules' stock', PutOk names signs limit rules stock rules' stock' ∧ Γ' = [.lst repRowQ a1 rules', .lst repStk4 a2 stock', vl c, vl (DrnQ.mk signs names dear side limit), vl signs, vl names, vl dear, vl side, vl limit, vl kd, vl again, vl n0, vl kc, vl rest, .no, vl one, .no, vl oth, vl way, vl (some pic : Option Pic)]) (eg_call2 0 1 (i := repUnit) (G := fun _ o1 o2 => ∃ rules' stock', PutOk names signs limit rules stock rules' stock' ∧ o1 = ownL repRowQ a1 rules' ∧ o2 = ownL repStk4 a2 stock') (by decide) (ok_law_put T) (hr.mono (by decide)) (eab_o 0 (eab_o 1 (eab_v (x := RowQ.mk r) (ev_u (α := RowQ) (x := ⟨r⟩) (y := .t [.s n0, .i kc, .i way, .s one.n, .s oth.n]) (ev_ot (ev_tupH (es_cons (ev_d (α := Tx) (ev_var 11)) (es_cons (ev_d (α := Int) (ev_var 12)) (es_cons (ev_d (α := Int) (ev_var 18)) (es_cons (ev_d (α := Tx) (x := one.n) (ev_4n (q := one) (ev_var 15) ev_int)) (es_cons (ev_d (α := Tx) (x := oth.n) (ev_4n (q := oth) (ev_var 17) ev_int)) es_nil))))))) r4.symm) (eab_v (ev_var 10) (eab_v (x := [one, oth]) (ev_of_en (en_lst (es_cons (ev_var 15) (es_cons (ev_var 17) es_nil)))) (eab_v (x := ((pic, limit) : Pic × Int)) (ev_pair (ev_un (x := pic) (ev_var 19)) (ev_var 8)) eab_nil)))))) rfl rfl rfl (fun _ o1 o2 ⟨_, _, _, e1, e2⟩ => by rw [e1, e2]; exact ⟨rfl, rfl⟩) (fun _ o1 o2 ⟨r', s', hp, e1, e2⟩ => ⟨r', s', hp, by rw [e1, e2]; rfl⟩)
        fun P' R' h' => ⟨a1, a2, rules, stock, ⟨r⟩, again, [one, oth], pic, limit, names, signs, rfl, hG, by omega, by omega, r1, fun s hs => by
          simp only [List.mem_cons, List.not_mem_nil, or_false] at hs
          rcases hs with rfl | rfl
          · exact io
          · exact it, r2, r3, hli.1, hli.2, fun r' s' hp _ => h' () _ _ ⟨r', s', hp, rfl, rfl⟩⟩) (fun _ Γ' hΓ => ?_) (fun _ _ z => z.elim)
      obtain ⟨r', s', hp, rfl⟩ := hΓ
      exact st_retU2 0 1 (by decide) (hput r' s' hp)
  · refine st_le le (st_nil ?_)
    exact ⟨ownL repRowQ a1 rules, ownL repStk4 a2 stock, rfl, rfl, fin0⟩
theorem ok_law_grown (T : Txt K mg) : Has P w K mg base 4 "_law_grown" ["_law_cells_here", "_law_drawn"] grownQS := by
  refine Has.of T.f_law_grown sc_law_grown (fun A Q R ⟨cells, d, e, _⟩ => by rw [e]; rfl) fun f cdv A outer s0 H E hr Γ Q R ⟨cells, d, e, hd, hc1, hc20, hq⟩ => ?_
  subst e
  refine st_setN 2 (xs := ([] : List RowQ)) (en_nil RowQ) (fun a1 => ?_) sc_law_grown.nd
  refine st_setN 3 (xs := ([] : List Stk4)) (en_nil Stk4) (fun a2 => ?_) sc_law_grown.nd
  refine st_for (fun k Γ' => ∃ rules stock, Le Γ' [vl cells, vl d, .lst repRowQ a1 rules, .lst repStk4 a2 stock, .no] ∧ GrownQ d.names d.signs d.limit rules stock ∧ rules.length ≤ k ∧ stock.length ≤ k ∧ (0 < k → 0 < stock.length)) (src_list (xs := cells) (ev_var 0)) (tg_name 4) ⟨[], [], Le.refl, ⟨fun _ z => (List.not_mem_nil z).elim, fun _ z => (List.not_mem_nil z).elim⟩, Nat.le_refl _, Nat.le_refl _, fun z => absurd z (by omega)⟩ (fun k c Γ' hk hP => ?_) (fun Γ' hP => ?_) (pgn 4 sc_law_grown.nd)
  · obtain ⟨rules, stock, le, hG, h1, h2, h3⟩ := hP
    have hkl := (List.getElem?_eq_some_iff.mp hk).1
    refine st_le (Le.set le 4 _) ?_
    refine st_dropG (P := fun _ Γ' => ∃ rules' stock', (PutOk d.names d.signs d.limit rules stock rules' stock' ∧ 0 < stock'.length) ∧ Γ' = [vl cells, vl d, .lst repRowQ a1 rules', .lst repStk4 a2 stock', vl c]) (eg_call2 2 3 (i := repUnit) (G := fun _ o1 o2 => ∃ rules' stock', (PutOk d.names d.signs d.limit rules stock rules' stock' ∧ 0 < stock'.length) ∧ o1 = ownL repRowQ a1 rules' ∧ o2 = ownL repStk4 a2 stock') (by decide) (ok_law_step T) (hr.mono (by decide)) (eab_o 2 (eab_o 3 (eab_v (ev_var 4) (eab_v (ev_var 1) eab_nil)))) rfl rfl rfl (fun _ o1 o2 ⟨_, _, _, e1, e2⟩ => by rw [e1, e2]; exact ⟨rfl, rfl⟩) (fun _ o1 o2 ⟨r', s', hp, e1, e2⟩ => ⟨r', s', hp, by rw [e1, e2]; rfl⟩)
      fun P' R' h' => ⟨a1, a2, rules, stock, c, d, rfl, hd, hG, by omega, by omega, fun r' s' hp h0 => h' () _ _ ⟨r', s', ⟨hp, h0⟩, rfl, rfl⟩⟩) (fun _ Γ' hΓ => ?_) (fun _ _ z => z.elim)
    obtain ⟨r', s', ⟨hp, h0⟩, rfl⟩ := hΓ
    have b1 := hp.rl
    have b2 := hp.sl
    exact st_nil ⟨r', s', le_cons (le_cons (le_cons (le_cons (le_no le_nil)))), hp.gr, by omega, by omega, fun _ => h0⟩
  · obtain ⟨rules, stock, le, hG, h1, h2, h3⟩ := hP
    refine st_le le ?_
    exact st_retPO 2 3 hq (by decide) fun ad => ⟨ad, a1, a2, rules, stock, ⟨hG, h1, h2, h3 (by omega)⟩, rfl⟩
end
theorem sum_nn {A : Type} {f : A → Int} : ∀ {l : List A}, (∀ x, 0 ≤ f x) → 0 ≤ (l.map f).sum
  | [], _ => by simp
  | x :: l, h => by
    have := sum_nn (l := l) h
    have := h x
    rw [List.map_cons, List.sum_cons]
    omega
theorem take_mono {A : Type} {f : A → Int} {l : List A} {m j : Nat} (h : ∀ x, 0 ≤ f x) (hm : m ≤ j) : ((l.take m).map f).sum ≤ ((l.take j).map f).sum := by
  have e : l.take j = l.take m ++ (l.take j).drop m := by
    conv => lhs; rw [← List.take_append_drop m (l.take j)]
    rw [List.take_take, Nat.min_eq_left hm]
  rw [e, List.map_append, List.sum_append_int]
  have := sum_nn (l := (l.take j).drop m) h
  omega
theorem take_le {A : Type} {f : A → Int} {l : List A} (m : Nat) (h : ∀ x, 0 ≤ f x) : ((l.take m).map f).sum ≤ (l.map f).sum := by
  conv => rhs; rw [← List.take_append_drop m l]
  rw [List.map_append, List.sum_append_int]
  have := sum_nn (l := l.drop m) h
  omega
theorem cntR_nn {g : Cf} (hg : ∀ n r c k, 0 ≤ g n r c k) (q : RuleD) (r c k : Int) : 0 ≤ cntR g q r c k := by
  have hs : ∀ (side : Bool) (a b : Tx) (left : Int), 0 ≤ ((sharesL side r c left).map (mulS g a b)).sum := fun side a b left => sum_nn fun x => Int.mul_nonneg (hg ..) (hg ..)
  cases q with
  | cell n co s => simp only [cntR]; split <;> decide
  | turn n co a t =>
    simp only [cntR]
    split
    · decide
    · split <;> exact hg ..
  | beside n co a b =>
    simp only [cntR]
    split
    · decide
    · exact hs ..
  | above n co a b =>
    simp only [cntR]
    split
    · decide
    · exact hs ..
theorem cntF_nn (rs : List RuleD) : ∀ (f : Nat) (n : Tx) (r c k : Int), 0 ≤ cntF rs f n r c k
  | 0, _, _, _, _ => Int.le_refl _
  | f + 1, n, r, c, k => sum_nn fun q => cntR_nn (cntF_nn rs f) q r c k
theorem cntT_nn (rs : List RuleD) (n : Tx) (r c k : Int) : 0 ≤ cntT rs n r c k := cntF_nn ..
theorem cntQ_nn (rs : List RuleD) (q : RuleD) (r c k : Int) : 0 ≤ cntR (cntT rs) q r c k := cntR_nn (cntT_nn rs) ..
theorem first_of {A : Type} (p : A → Prop) : ∀ {l : List A}, (∃ x ∈ l, p x) → ∃ (j : Nat) (y : A), l[j]? = some y ∧ p y ∧ ∀ m < j, ∀ z, l[m]? = some z → ¬ p z
  | [], ⟨x, h, _⟩ => (List.not_mem_nil h).elim
  | a :: l, ⟨x, h, hp⟩ => by
    by_cases ha : p a
    · exact ⟨0, a, rfl, ha, fun m hm => absurd hm (Nat.not_lt_zero m)⟩
    · have hx : x ∈ l := by
        rcases List.mem_cons.mp h with rfl | h
        · exact absurd hp ha
        · exact h
      obtain ⟨j, y, h1, h2, h3⟩ := first_of p ⟨x, hx, hp⟩
      refine ⟨j + 1, y, by simpa using h1, h2, fun m hm z hz => ?_⟩
      cases m with
      | zero => cases (Option.some.inj hz); exact ha
      | succ m => exact h3 m (by omega) z (by simpa using hz)
noncomputable def shpOf (s : Stk4) : Sz3 := ⟨(s.p.length : Int), ((s.p.headD []).length : Int), s.c⟩
noncomputable def nmSum (rs : List RuleD) (n : Tx) (x : Sz3) (j : Nat) : Int := (((rs.filter fun q => decide (q.name = n)).take j).map fun q => cntR (cntT rs) q x.r x.c x.k).sum
noncomputable def shSum (rs : List RuleD) (s : Bool) (a b : Tx) (r c left : Int) (j : Nat) : Int := (((sharesL s r c left).take j).map (mulS (cntT rs) a b)).sum
structure GTwo (G : Stk4 → Int → Prop) (rs : List RuleD) (s : Bool) (a b : Tx) (ts : List Tr) (r c left y : Int) : Prop where
  ex : ∃ (q1 q2 : Stk4) (x : Sz3 × Sz3) (z1 z2 : Int) (j : Nat), ts = [q1.t, q2.t] ∧ q1.n = a ∧ q2.n = b ∧ G q1 z1 ∧ G q2 z2 ∧ shpOf q1 = x.1 ∧ shpOf q2 = x.2 ∧ (sharesL s r c left)[j]? = some x ∧ (∀ m < j, ∀ u, (sharesL s r c left)[m]? = some u → u.1 ≠ x.1) ∧ y = shSum rs s a b r c left j + (z1 * cntT rs b x.2.r x.2.c x.2.k + z2)
noncomputable def GBy (G : Stk4 → Int → Prop) (rs : List RuleD) (q : RuleD) (ts : List Tr) (x : Sz3) (y : Int) : Prop := match q with
  | .cell _ co _ => ts = [] ∧ x = ⟨1, 1, co⟩ ∧ y = 0
  | .turn _ co a tn => ∃ s : Stk4, ts = [s.t] ∧ s.n = a ∧ G s y ∧ shpOf s = if tn % 2 = 1 then ⟨x.c, x.r, x.k - co⟩ else ⟨x.r, x.c, x.k - co⟩
  | .beside _ co a b => GTwo G rs true a b ts x.r x.c (x.k - co) y
  | .above _ co a b => GTwo G rs false a b ts x.r x.c (x.k - co) y
structure GNode (rs : List RuleD) (s : Stk4) (j : Nat) : Prop where
  ok : NodeOk rs s
  inr : InR rs s.t.num
  nm : (ruleAt rs s.t.num).name = s.n
  at_ : (numbersL s.n rs)[j]? = some s.t.num
  ft : ∀ m < j, (numbersL s.n rs)[m]? ≠ some s.t.num
noncomputable def GNd (rs : List RuleD) : Nat → Stk4 → Int → Prop
  | 0, _, _ => False
  | d + 1, s, z => ∃ (j : Nat) (y : Int), GNode rs s j ∧ z = nmSum rs s.n (shpOf s) j + y ∧ GBy (GNd rs d) rs (ruleAt rs s.t.num) s.t.subs (shpOf s) y
theorem Pk.put2 {s : Bool} {p q : Pic} {r c r' c' : Nat} (hp : Pk p r c) (hq : Pk q r' c') (h : fits s r c r' c' = true) : Pk (putT s p q) (if s then r else r + r') (if s then c + c' else c) := by
  have hr := hp.r6
  have hc := hp.c6
  have hr0 := hp.r0
  have hc0 := hp.c0
  unfold fits at h
  unfold putT
  cases s with
  | true =>
    simp only [if_true, Bool.and_eq_true, decide_eq_true_eq] at h ⊢
    refine ⟨?_, fun x hx => ?_, hr0, by omega, hr, by omega⟩
    · rw [List.length_zipWith, hp.len, hq.len]; omega
    · rw [← zip_map] at hx
      obtain ⟨y, hy, rfl⟩ := List.mem_map.mp hx
      rw [List.length_append, hp.row _ (List.of_mem_zip hy).1, hq.row _ (List.of_mem_zip hy).2]
  | false =>
    simp only [Bool.false_eq_true, if_false, Bool.and_eq_true, decide_eq_true_eq] at h ⊢
    refine ⟨?_, fun x hx => ?_, by omega, hc0, by omega, hc⟩
    · rw [List.length_append, hp.len, hq.len]
    · rcases List.mem_append.mp hx with z | z
      · exact hp.row x z
      · rw [hq.row x z]; exact h.1.symm
theorem shp_pk {s : Stk4} {r c : Nat} (h : Pk s.p r c) : shpOf s = ⟨(r : Int), (c : Int), s.c⟩ := by
  unfold shpOf
  rw [h.len, h.head.2]
mutual
theorem size_cost {rs : List RuleD} (hc : ∀ q ∈ rs, 1 ≤ q.cost) : ∀ t : Tr, t.wf rs → (t.size : Int) ≤ t.cost rs
  | .node n ts, h => by
    rw [Tr.wf] at h
    rw [Tr.size, Tr.cost]
    have h1 := hc _ (rule_at h.1).2
    have h2 := sizes_cost hc ts h.2.2
    omega
theorem sizes_cost {rs : List RuleD} (hc : ∀ q ∈ rs, 1 ≤ q.cost) : ∀ ts : List Tr, Tr.wfs rs ts → (Tr.sizes ts : Int) ≤ Tr.costs rs ts
  | [], _ => by rw [Tr.sizes, Tr.costs]; exact Int.le_refl _
  | t :: ts, h => by
    rw [Tr.wfs] at h
    rw [Tr.sizes, Tr.costs]
    have h1 := size_cost hc t h.1
    have h2 := sizes_cost hc ts h.2
    omega
end
mutual
theorem dep_size : ∀ t : Tr, t.dep ≤ t.size
  | .node n ts => by rw [Tr.dep, Tr.size]; have := deps_size ts; omega
theorem deps_size : ∀ ts : List Tr, Tr.deps ts ≤ Tr.sizes ts
  | [] => by rw [Tr.deps]; exact Nat.zero_le _
  | t :: ts => by
    rw [Tr.deps, Tr.sizes]
    have h1 := dep_size t
    have h2 := deps_size ts
    omega
end
theorem NodeOk.sizes {rs : List RuleD} {s : Stk4} (hc : ∀ q ∈ rs, 1 ≤ q.cost) (h : NodeOk rs s) : (s.t.size : Int) ≤ s.c ∧ (s.t.dep : Int) ≤ s.c ∧ 1 ≤ s.c := by
  have h1 := size_cost hc s.t h.gd.wf
  have h2 : s.c = s.t.cost rs := h.gd.cs
  have h3 := dep_size s.t
  have h4 := Tr.dep_pos s.t
  omega
theorem rng1_mem {z : Int} {m : Nat} (h1 : 1 ≤ z) (h2 : z ≤ (m : Int)) : z ∈ rng 1 m := by
  unfold rng
  exact List.mem_map.mpr ⟨(z - 1).toNat, List.mem_range.mpr (by omega), by omega⟩
theorem share_mem {s : Bool} {r c r' c' k k' : Int} (h : if s then r = r' else c = c') (hr : 1 ≤ r) (hc : 1 ≤ c) (hr' : 1 ≤ r') (hc' : 1 ≤ c') (hk : 1 ≤ k) (hk' : 1 ≤ k') : ((⟨r, c, k⟩, ⟨r', c', k'⟩) : Sz3 × Sz3) ∈ sharesL s (if s then r else r + r') (if s then c + c' else c) (k + k') := by
  unfold sharesL
  cases s with
  | true =>
    simp only [if_true] at h ⊢
    refine List.mem_flatMap.mpr ⟨c, rng1_mem hc (by omega), List.mem_map.mpr ⟨k, rng1_mem hk (by omega), ?_⟩⟩
    rw [← h, show c + c' - c = c' by omega, show k + k' - k = k' by omega]
  | false =>
    simp only [Bool.false_eq_true, if_false] at h ⊢
    refine List.mem_flatMap.mpr ⟨r, rng1_mem hr (by omega), List.mem_map.mpr ⟨k, rng1_mem hk (by omega), ?_⟩⟩
    rw [← h, show r + r' - r = r' by omega, show k + k' - k = k' by omega]
theorem share_one {s : Bool} {r c left : Int} {x y : Sz3 × Sz3} (hx : x ∈ sharesL s r c left) (hy : y ∈ sharesL s r c left) (h : x.1 = y.1) : x = y := by
  unfold sharesL at hx hy
  obtain ⟨a, _, hx⟩ := List.mem_flatMap.mp hx
  obtain ⟨k, _, rfl⟩ := List.mem_map.mp hx
  obtain ⟨b, _, hy⟩ := List.mem_flatMap.mp hy
  obtain ⟨m, _, rfl⟩ := List.mem_map.mp hy
  cases s with
  | true =>
    simp only [if_true] at h ⊢
    cases h
    rfl
  | false =>
    simp only [Bool.false_eq_true, if_false] at h ⊢
    cases h
    rfl
theorem nums_mem {rs : List RuleD} {i : Int} {n : Tx} (h : InR rs i) (hn : (ruleAt rs i).name = n) : i ∈ numbersL n rs := by
  obtain ⟨h1, h2⟩ := rule_at h
  unfold InR at h
  simp only [Bool.or_eq_false_iff, decide_eq_false_iff_not] at h
  have hlt : i.toNat < rs.length := by omega
  have e : rs[i.toNat]? = some (ruleAt rs i) := by
    unfold ruleAt
    rw [List.getD_eq_getElem?_getD, List.getElem?_eq_getElem hlt]; rfl
  unfold numbersL enumL
  refine List.mem_map.mpr ⟨(i, ruleAt rs i), List.mem_filter.mpr ⟨List.mem_map.mpr ⟨(ruleAt rs i, i.toNat), ?_, ?_⟩, decide_eq_true hn⟩, rfl⟩
  · exact List.mem_zipIdx_iff_getElem?.mpr (by simpa using e)
  · show (((i.toNat : Nat) : Int), ruleAt rs i) = _
    rw [show ((i.toNat : Nat) : Int) = i by omega]
theorem GT.ok {rs : List RuleD} {s : Stk4} (h : GT rs s) : NodeOk rs s := by
  cases h with
  | cell h e g => exact g
  | turn h e b g => exact g
  | two s h e b1 b2 f g => exact g
theorem node_at {rs : List RuleD} {s : Stk4} (ok : NodeOk rs s) (h : InR rs s.t.num) (hn : (ruleAt rs s.t.num).name = s.n) : ∃ j, GNode rs s j := by
  obtain ⟨j, y, h1, h2, h3⟩ := first_of (fun i => i = s.t.num) (l := numbersL s.n rs) ⟨s.t.num, nums_mem h hn, rfl⟩
  exact ⟨j, ok, h, hn, by rw [h1, h2], fun m hm z => h3 m hm _ z rfl⟩
theorem GT.num {rs : List RuleD} (hg : ∀ q ∈ rs, q.good = true) {s : Stk4} (h : GT rs s) : ∀ d, s.t.dep ≤ d → ∃ z, GNd rs d s z := by
  have hc : ∀ q ∈ rs, 1 ≤ q.cost := fun q hq => (RuleD.bounds (hg q hq)).2.1
  induction h with
  | @cell i n co sg h e g =>
    intro d hd
    cases d with
    | zero => exact absurd (Tr.dep_pos (.node i [])) (by have : (Tr.node i []).dep ≤ 0 := hd; omega)
    | succ d =>
      obtain ⟨j, hj⟩ := node_at (s := ⟨.node i [], n, [sg], co⟩) g h (by show (ruleAt rs i).name = n; rw [e]; rfl)
      obtain ⟨r, c, hp⟩ := g.pin
      have hp : Pk [sg] r c := hp
      have hr := hp.len
      have hrow := hp.row sg (List.mem_singleton.mpr rfl)
      have hgr := hg _ (rule_at h).2
      rw [e] at hgr
      have h1 : sg.length = 1 := by
        simp only [RuleD.good, Bool.and_eq_true] at hgr
        have h1 := hgr.1
        unfold signOk at h1
        simp only [Bool.and_eq_true, decide_eq_true_eq] at h1
        exact h1.1
      refine ⟨_, j, 0, hj, rfl, ?_⟩
      show GBy _ rs (ruleAt rs i) [] _ 0
      rw [e]
      refine ⟨rfl, ?_, rfl⟩
      show (⟨(1 : Nat), (sg.length : Int), co⟩ : Sz3) = _
      rw [h1]; rfl
  | @turn i n co tn q h e b g ih =>
    intro d hd
    cases d with
    | zero => exact absurd (Tr.dep_pos (.node i [q.t])) (by have : (Tr.node i [q.t]).dep ≤ 0 := hd; omega)
    | succ d =>
      obtain ⟨j, hj⟩ := node_at (s := ⟨.node i [q.t], n, turned q.p tn.toNat, co + q.c⟩) g h (by show (ruleAt rs i).name = n; rw [e]; rfl)
      have hds := Tr.dep_sub (t := .node i [q.t]) (s := q.t) (List.mem_singleton.mpr rfl)
      obtain ⟨y, hy⟩ := ih d (by have : (Tr.node i [q.t]).dep ≤ d + 1 := hd; omega)
      have ht := turnOk_good (hg _ (rule_at h).2)
      rw [e] at ht
      have ht : 0 ≤ tn := ht
      obtain ⟨r, c, hp⟩ := b.ok.pin
      refine ⟨_, j, y, hj, rfl, ?_⟩
      show GBy _ rs (ruleAt rs i) [q.t] _ y
      rw [e, shp_pk (s := ⟨.node i [q.t], n, turned q.p tn.toNat, co + q.c⟩) (hp.turned tn.toNat)]
      refine ⟨q, rfl, rfl, hy, ?_⟩
      rw [shp_pk hp]
      show _ = if tn % 2 = 1 then (⟨((if tn.toNat % 2 = 0 then c else r : Nat) : Int), ((if tn.toNat % 2 = 0 then r else c : Nat) : Int), co + q.c - co⟩ : Sz3) else ⟨((if tn.toNat % 2 = 0 then r else c : Nat) : Int), ((if tn.toNat % 2 = 0 then c else r : Nat) : Int), co + q.c - co⟩
      rw [show co + q.c - co = q.c by omega]
      by_cases ho : tn % 2 = 1
      · rw [if_pos ho, if_neg (by omega), if_neg (by omega)]
      · rw [if_neg ho, if_pos (by omega), if_pos (by omega)]
  | @two i n co q1 q2 s h e b1 b2 f g ih1 ih2 =>
    intro d hd
    cases d with
    | zero => exact absurd (Tr.dep_pos (.node i [q1.t, q2.t])) (by have : (Tr.node i [q1.t, q2.t]).dep ≤ 0 := hd; omega)
    | succ d =>
      obtain ⟨j, hj⟩ := node_at (s := ⟨.node i [q1.t, q2.t], n, putT s q1.p q2.p, co + (q1.c + q2.c)⟩) g h (by show (ruleAt rs i).name = n; rw [e]; cases s <;> rfl)
      have hd1 := Tr.dep_sub (t := .node i [q1.t, q2.t]) (s := q1.t) (by show _ ∈ [q1.t, q2.t]; simp)
      have hd2 := Tr.dep_sub (t := .node i [q1.t, q2.t]) (s := q2.t) (by show _ ∈ [q1.t, q2.t]; simp)
      have hd : (Tr.node i [q1.t, q2.t]).dep ≤ d + 1 := hd
      obtain ⟨z1, hz1⟩ := ih1 d (by omega)
      obtain ⟨z2, hz2⟩ := ih2 d (by omega)
      obtain ⟨r1, c1, p1⟩ := b1.ok.pin
      obtain ⟨r2, c2, p2⟩ := b2.ok.pin
      have hk1 := (b1.ok.sizes hc).2.2
      have hk2 := (b2.ok.sizes hc).2.2
      have hf := PicIn.fits (s := s) p1 p2
      rw [f] at hf
      have pp := Pk.put2 p1 p2 hf.symm
      have a1 := p1.r0
      have a2 := p1.c0
      have a3 := p2.r0
      have a4 := p2.c0
      have hfs : if s then r1 = r2 else c1 = c2 := by
        have hf := hf.symm
        unfold fits at hf
        cases s
        · simp only [Bool.false_eq_true, if_false, Bool.and_eq_true, decide_eq_true_eq] at hf ⊢; exact hf.1
        · simp only [if_true, Bool.and_eq_true, decide_eq_true_eq] at hf ⊢; exact hf.1
      have hm := share_mem (s := s) (r := (r1 : Int)) (c := (c1 : Int)) (r' := (r2 : Int)) (c' := (c2 : Int)) (k := q1.c) (k' := q2.c) (by cases s <;> simp at hfs ⊢ <;> omega) (by omega) (by omega) (by omega) (by omega) hk1 hk2
      have hsh : shpOf ⟨.node i [q1.t, q2.t], n, putT s q1.p q2.p, co + (q1.c + q2.c)⟩ = ⟨(if s then (r1 : Int) else (r1 : Int) + (r2 : Int)), (if s then (c1 : Int) + (c2 : Int) else (c1 : Int)), co + (q1.c + q2.c)⟩ := by
        rw [shp_pk (s := ⟨.node i [q1.t, q2.t], n, putT s q1.p q2.p, co + (q1.c + q2.c)⟩) pp]
        cases s <;> simp
      have h1 := shp_pk p1
      have h2 := shp_pk p2
      obtain ⟨m, u, hu1, hu2, hu3⟩ := first_of (fun u : Sz3 × Sz3 => u.1 = shpOf q1) ⟨_, hm, h1.symm⟩
      have hue := share_one (List.mem_of_getElem? hu1) hm (by rw [hu2, h1])
      subst hue
      have two : GTwo (GNd rs d) rs s q1.n q2.n [q1.t, q2.t] (if s then (r1 : Int) else (r1 : Int) + (r2 : Int)) (if s then (c1 : Int) + (c2 : Int) else (c1 : Int)) (q1.c + q2.c) (shSum rs s q1.n q2.n (if s then (r1 : Int) else (r1 : Int) + (r2 : Int)) (if s then (c1 : Int) + (c2 : Int) else (c1 : Int)) (q1.c + q2.c) m + (z1 * cntT rs q2.n (r2 : Int) (c2 : Int) q2.c + z2)) :=
        ⟨q1, q2, _, z1, z2, m, rfl, rfl, rfl, hz1, hz2, h1, h2, hu1, fun m' hm' u' hu' => by rw [← h1]; exact hu3 m' hm' u' hu', rfl⟩
      refine ⟨_, j, shSum rs s q1.n q2.n (if s then (r1 : Int) else (r1 : Int) + (r2 : Int)) (if s then (c1 : Int) + (c2 : Int) else (c1 : Int)) (q1.c + q2.c) m + (z1 * cntT rs q2.n (r2 : Int) (c2 : Int) q2.c + z2), hj, rfl, ?_⟩
      show GBy _ rs (ruleAt rs i) [q1.t, q2.t] _ _
      rw [hsh, e]
      have ek : co + (q1.c + q2.c) - co = q1.c + q2.c := by omega
      cases s with
      | true =>
        simp only [if_true] at two ⊢
        show GTwo _ rs true q1.n q2.n _ _ _ (co + (q1.c + q2.c) - co) _
        rw [ek]; exact two
      | false =>
        simp only [Bool.false_eq_true, if_false] at two ⊢
        show GTwo _ rs false q1.n q2.n _ _ _ (co + (q1.c + q2.c) - co) _
        rw [ek]; exact two
theorem two_bd {rs : List RuleD} {G : Stk4 → Int → Prop} (hG : ∀ s z, G s z → 0 ≤ z ∧ z < cntT rs s.n (shpOf s).r (shpOf s).c (shpOf s).k) {s : Bool} {a b : Tx} {ts : List Tr} {r c left y : Int} (h : GTwo G rs s a b ts r c left y) : 0 ≤ y ∧ 1 ≤ left ∧ y < ((sharesL s r c left).map (mulS (cntT rs) a b)).sum := by
  obtain ⟨q1, q2, x, z1, z2, j, rfl, rfl, rfl, g1, g2, s1, s2, hj, _, rfl⟩ := h.ex
  obtain ⟨a1, a2⟩ := hG _ _ g1
  obtain ⟨b1, b2⟩ := hG _ _ g2
  rw [s1] at a2
  rw [s2] at b2
  have hin := shares_in (List.mem_of_getElem? hj)
  have i1 := hin.k1
  have i2 := hin.k2
  have i3 := hin.ks
  have hnn : ∀ x, 0 ≤ mulS (cntT rs) q1.n q2.n x := fun x => Int.mul_nonneg (cntT_nn ..) (cntT_nn ..)
  have h0 := sum_nn (l := (sharesL s r c left).take j) hnn
  have hts := take_sum (f := mulS (cntT rs) q1.n q2.n) hj
  have hle := take_le (f := mulS (cntT rs) q1.n q2.n) (l := sharesL s r c left) (j + 1) hnn
  have hmul : mulS (cntT rs) q1.n q2.n x = cntT rs q1.n x.1.r x.1.c x.1.k * cntT rs q2.n x.2.r x.2.c x.2.k := rfl
  unfold shSum
  generalize cntT rs q1.n x.1.r x.1.c x.1.k = ca at *
  generalize cntT rs q2.n x.2.r x.2.c x.2.k = cb at *
  have m1 : 0 ≤ z1 * cb := Int.mul_nonneg a1 (by omega)
  have m2 : z1 * cb + cb ≤ ca * cb := by
    have : (z1 + 1) * cb ≤ ca * cb := Int.mul_le_mul_of_nonneg_right (by omega) (by omega)
    rw [Int.add_mul, Int.one_mul] at this
    exact this
  refine ⟨by omega, by omega, by omega⟩
theorem by_bd {rs : List RuleD} {G : Stk4 → Int → Prop} (hc : ∀ q ∈ rs, 1 ≤ q.cost) (hG : ∀ s z, G s z → 0 ≤ z ∧ z < cntT rs s.n (shpOf s).r (shpOf s).c (shpOf s).k) {q : RuleD} {ts : List Tr} {x : Sz3} {y : Int} (h : GBy G rs q ts x y) : 0 ≤ y ∧ y < cntR (cntT rs) q x.r x.c x.k := by
  cases q with
  | cell n co s =>
    obtain ⟨_, rfl, rfl⟩ := h
    refine ⟨Int.le_refl _, ?_⟩
    show 0 < if co - co = 0 ∧ (1 : Int) = 1 ∧ (1 : Int) = 1 then (1 : Int) else 0
    rw [if_pos ⟨by omega, rfl, rfl⟩]; decide
  | turn n co a tn =>
    obtain ⟨s, _, rfl, g, e⟩ := h
    obtain ⟨h1, h2⟩ := hG _ _ g
    refine ⟨h1, ?_⟩
    rw [e] at h2
    simp only [cntR]
    by_cases ho : tn % 2 = 1
    · rw [if_pos ho] at h2
      have h2 : y < cntT rs s.n x.c x.r (x.k - co) := h2
      have hk : ¬ x.k - co < 1 := fun z => by
        rw [cntT_zero hc (by omega)] at h2
        omega
      rw [if_neg hk, if_pos ho]; exact h2
    · rw [if_neg ho] at h2
      have h2 : y < cntT rs s.n x.r x.c (x.k - co) := h2
      have hk : ¬ x.k - co < 1 := fun z => by
        rw [cntT_zero hc (by omega)] at h2
        omega
      rw [if_neg hk, if_neg ho]; exact h2
  | beside n co a b =>
    obtain ⟨h1, h2, h3⟩ := two_bd hG (show GTwo G rs true a b ts x.r x.c (x.k - co) y from h)
    refine ⟨h1, ?_⟩
    simp only [cntR]
    rw [if_neg (by omega)]; exact h3
  | above n co a b =>
    obtain ⟨h1, h2, h3⟩ := two_bd hG (show GTwo G rs false a b ts x.r x.c (x.k - co) y from h)
    refine ⟨h1, ?_⟩
    simp only [cntR]
    rw [if_neg (by omega)]; exact h3
theorem GNode.rule {rs : List RuleD} {s : Stk4} {j : Nat} (h : GNode rs s j) : (rs.filter fun q => decide (q.name = s.n))[j]? = some (ruleAt rs s.t.num) := by
  obtain ⟨q, h1, _, h3⟩ := nums_at h.at_
  rw [h3]
  have := (rule_at h.inr).1
  rw [this] at h1
  exact h1.symm
theorem GNd.bd {rs : List RuleD} (hc : ∀ q ∈ rs, 1 ≤ q.cost) : ∀ (d : Nat) (s : Stk4) (z : Int), GNd rs d s z → 0 ≤ z ∧ z < cntT rs s.n (shpOf s).r (shpOf s).c (shpOf s).k
  | 0, _, _, h => h.elim
  | d + 1, s, z, ⟨j, y, hn, hz, hb⟩ => by
    obtain ⟨h1, h2⟩ := by_bd hc (GNd.bd hc d) hb
    have h0 := sum_nn (f := fun q => cntR (cntT rs) q (shpOf s).r (shpOf s).c (shpOf s).k) (l := (rs.filter fun q => decide (q.name = s.n)).take j) fun q => cntQ_nn ..
    have hts := take_sum (f := fun q => cntR (cntT rs) q (shpOf s).r (shpOf s).c (shpOf s).k) hn.rule
    have hle := take_le (f := fun q => cntR (cntT rs) q (shpOf s).r (shpOf s).c (shpOf s).k) (l := rs.filter fun q => decide (q.name = s.n)) (j + 1) fun q => cntQ_nn ..
    rw [cntT_eq hc, hz]
    unfold nmSum
    omega
theorem made_nm {g : GramD} (h : g.Made) {q : RuleD} (hq : q ∈ g.rules) : q.name ∈ g.names := by
  rw [h.ok.nm]
  exact metAll_mem.mpr (.inr ⟨q, hq, List.mem_cons_self ..⟩)
structure BoxS (x : Sz3) : Prop where
  r1 : 1 ≤ x.r
  r8 : x.r ≤ 8
  c1 : 1 ≤ x.c
  c8 : x.c ≤ 8
  k1 : 1 ≤ x.k
  k16 : x.k ≤ 16
theorem NodeOk.box {rs : List RuleD} {s : Stk4} (hc : ∀ q ∈ rs, 1 ≤ q.cost) (h : NodeOk rs s) (h16 : s.c ≤ 16) : BoxS (shpOf s) := by
  obtain ⟨r, c, hp⟩ := h.pin
  have a1 := hp.r0
  have a2 := hp.c0
  have a3 := hp.r6
  have a4 := hp.c6
  have a5 := h.sizes hc
  rw [shp_pk hp]
  exact ⟨by show 1 ≤ (r : Int); omega, by show (r : Int) ≤ 8; omega, by show 1 ≤ (c : Int); omega, by show (c : Int) ≤ 8; omega, a5.2.2, h16⟩
theorem GNd.ok {rs : List RuleD} {d : Nat} {s : Stk4} {z : Int} (h : GNd rs d s z) : NodeOk rs s := by
  cases d with
  | zero => exact h.elim
  | succ d => obtain ⟨j, y, hn, _⟩ := h; exact hn.ok
theorem NodeOk.nofault {rs : List RuleD} {s : Stk4} (h : NodeOk rs s) : faultOf rs s.t = none ∧ picOf rs s.t = s.p := by
  have h1 := h.gd.no []
  have h2 := h.gd.mkp []
  have h1 : nf rs s.t [] none = none := h1
  have h2 : Law.mk rs s.t [] = .ok s.p := h2
  unfold faultOf picOf
  rw [h1, h2]
  exact ⟨rfl, rfl⟩
theorem sz_dep (x : Sz3) : x.d.Shp := by
  refine ⟨?_, ?_⟩
  · show (Dy.t _).okc
    rw [Dy.okc, Dy.okcs, Dy.okcs, Dy.okcs, Dy.okcs, Dy.okc, Dy.okc, Dy.okc]
    exact ⟨trivial, trivial, trivial, trivial⟩
  · show (Dy.t _).dep ≤ _
    rw [Dy.dep, Dy.deps, Dy.deps, Dy.deps, Dy.deps, Dy.dep, Dy.dep, Dy.dep]
    decide
theorem sz_inj {x y : Sz3} : x.d = y.d ↔ x = y := by
  constructor
  · intro h
    obtain ⟨a, b, c⟩ := x
    obtain ⟨a', b', c'⟩ := y
    have h := Dy.t.inj h
    simp only [List.cons.injEq, Dy.i.injEq, and_true] at h
    obtain ⟨rfl, rfl, rfl⟩ := h
    rfl
  · rintro rfl; rfl
noncomputable def szS : Tw.Spec := fun A P _ => ∃ (p : Pic) (r c : Nat), A = [vl p] ∧ Pk p r c ∧ P (rv (Tup.mk [(r : Int), (c : Int)]))
noncomputable def shapeS (K : PySem.W.Frag) : Tw.Spec := fun A P _ => ∃ (C a dx da : Addr) (g : GramD) (l : List (Key4 × Int)) (s : Stk4), A = [.own (cO C a dx da g l), vl s.t] ∧ PySem.W.nsIn K mainGlobals "Counter" = some (some (.ref C)) ∧ g.Made ∧ NodeOk g.rules s ∧ s.c ≤ 16 ∧ P (.chg repSz3 (shpOf s) [cO C a dx da g l])
noncomputable def numNS (K : PySem.W.Frag) (d : Nat) : Tw.Spec := fun A P _ => ∃ (C a dx da : Addr) (g : GramD) (l : List (Key4 × Int)) (s : Stk4) (z : Int), A = [.own (cO C a dx da g l), vl s.t] ∧ PySem.W.nsIn K mainGlobals "Counter" = some (some (.ref C)) ∧ g.Made ∧ Kept g l ∧ GNd g.rules d s z ∧ s.c ≤ 16 ∧ ∀ l', Kept g l' → P (.chg repInt z [cO C a dx da g l'])
noncomputable def nbS (K : PySem.W.Frag) (d : Nat) : Tw.Spec := fun A P _ => ∃ (C a dx da : Addr) (g : GramD) (l : List (Key4 × Int)) (q : RuleD) (x : Sz3) (t : Tr) (y : Int), A = [.own (cO C a dx da g l), vl q, vl x, vl t] ∧ PySem.W.nsIn K mainGlobals "Counter" = some (some (.ref C)) ∧ g.Made ∧ Kept g l ∧ q ∈ g.rules ∧ BoxS x ∧ GBy (GNd g.rules d) g.rules q t.subs x y ∧ ∀ l', Kept g l' → P (.chg repInt y [cO C a dx da g l'])
noncomputable def treeNS (K : PySem.W.Frag) (d : Nat) : Tw.Spec := fun A P _ => ∃ (C a dx da : Addr) (g : GramD) (l : List (Key4 × Int)) (s : Stk4) (x : Sz3) (z : Int), A = [.own (cO C a dx da g l), vl s.n, vl x.r, vl x.c, vl x.k, vl z] ∧ PySem.W.nsIn K mainGlobals "Counter" = some (some (.ref C)) ∧ g.Made ∧ Kept g l ∧ x = shpOf s ∧ GNd g.rules d s z ∧ s.c ≤ 16 ∧ ∀ l', Kept g l' → P (.chg repTr s.t [cO C a dx da g l'])
noncomputable def tbS (K : PySem.W.Frag) (d : Nat) : Tw.Spec := fun A P _ => ∃ (C a dx da : Addr) (g : GramD) (l : List (Key4 × Int)) (q : RuleD) (x : Sz3) (t : Tr) (y : Int), A = [.own (cO C a dx da g l), vl t.num, vl q, vl x, vl y] ∧ PySem.W.nsIn K mainGlobals "Counter" = some (some (.ref C)) ∧ g.Made ∧ Kept g l ∧ q ∈ g.rules ∧ BoxS x ∧ GBy (GNd g.rules d) g.rules q t.subs x y ∧ ∀ l', Kept g l' → P (.chg repTr t [cO C a dx da g l'])
theorem by_kinds {G : Stk4 → Int → Prop} {rs : List RuleD} {q : RuleD} {ts : List Tr} {x : Sz3} {y : Int} (h : GBy G rs q ts x y) : (∃ n co s, q = .cell n co s ∧ ts = [] ∧ y = 0) ∨ (∃ n co a tn s, q = .turn n co a tn ∧ ts = [s.t] ∧ s.n = a ∧ G s y ∧ shpOf s = if tn % 2 = 1 then ⟨x.c, x.r, x.k - co⟩ else ⟨x.r, x.c, x.k - co⟩) ∨
    (∃ (sd : Bool) (n : Tx) (co : Int) (a b : Tx), q = (if sd then .beside n co a b else .above n co a b) ∧ GTwo G rs sd a b ts x.r x.c (x.k - co) y) := by
  cases q with
  | cell n co s => exact .inl ⟨n, co, s, rfl, h.1, h.2.2⟩
  | turn n co a tn =>
    obtain ⟨s, h1, h2, h3, h4⟩ := h
    exact .inr (.inl ⟨n, co, a, tn, s, rfl, h1, h2, h3, h4⟩)
  | beside n co a b => exact .inr (.inr ⟨true, n, co, a, b, rfl, h⟩)
  | above n co a b => exact .inr (.inr ⟨false, n, co, a, b, rfl, h⟩)
theorem mulW_lt {z a b : Int} (h0 : 0 ≤ z) (h : z < a) (hm : CMulW a b) : CMulW z b := by
  have hl : z.natAbs.log2 ≤ a.natAbs.log2 := by
    by_cases hz : z.natAbs = 0
    · rw [hz]; exact Nat.zero_le _
    · have h1 : z.natAbs.log2 < a.natAbs.log2 + 1 := (Nat.log2_lt hz).mpr (Nat.lt_of_lt_of_le (by omega : z.natAbs < a.natAbs) (Nat.le_of_lt ((Nat.log2_lt (by omega)).mp (Nat.lt_succ_self _))))
      omega
  unfold CMulW at hm ⊢
  omega
section
variable {P : Program} {w : World} {K : PySem.W.Frag} {mg : Str → Option Value} {base : Heap}
theorem two_facts (T : Txt K mg) {q : RuleD} {sd : Bool} {n : Tx} {co : Int} {a b : Tx} (eq : q = (if sd then .beside n co a b else .above n co a b)) : OSub K q.cls "CellRule" false ∧ OSub K q.cls "TurnRule" false ∧ NoA K q.cls "one" ∧ NoA K q.cls "other" ∧ q.flds.lookup ("one" : Str) = some (vl a) ∧ q.flds.lookup ("other" : Str) = some (vl b) := by
  subst eq
  cases sd
  · exact ⟨T.u_AboveRule_CellRule, T.u_AboveRule_TurnRule, T.a_AboveRule_one, T.a_AboveRule_other, rfl, rfl⟩
  · exact ⟨T.u_BesideRule_CellRule, T.u_BesideRule_TurnRule, T.a_BesideRule_one, T.a_BesideRule_other, rfl, rfl⟩
theorem ok_size_of (T : Txt K mg) : Has P w K mg base 1 "size_of" ["picture"] szS := by
  refine Has.of T.f_size_of sc_size_of (fun A Q R ⟨p, r, c, e, _⟩ => by rw [e]; rfl) fun f cdv A outer s H E hr Γ Q R ⟨p, r, c, e, hp, hq⟩ => ?_
  subst e
  obtain ⟨h0, h1⟩ := hp.head
  have hc6 := hp.c6
  exact st_retV (ev_tupH (es_cons (ev_eq (y := (r : Int)) (ev_len T.b_len (ev_var 0)) (by rw [hp.len])) (es_cons (ev_eq (y := (c : Int)) (ev_lenS T.b_len (ev_ixL (ev_var 0) ev_int h0) (sl6 (by omega))) (by rw [h1])) es_nil))) hq
theorem of_shares16 (T : Txt K mg) : HasM P w K mg base 51 "Counter" "of_shares" ["self", "rule", "one", "other"] (cshareS K 16) := ok_of_shares T (all_of_name T 16)
theorem of_rule16 (T : Txt K mg) : HasM P w K mg base 52 "Counter" "of_rule" ["self", "rule", "rows", "columns", "cost"] (cruleS K 16) := ok_of_rule T (by omega) (all_of_name T 16)
theorem ok_shape_of (T : Txt K mg) : HasM P w K mg base 90 "Counter" "shape_of" ["self", "tree"] (shapeS K) := by
  refine HasM.of T.m_Counter_shape_of sc_Counter_shape_of (fun A Q R ⟨C, a, dx, da, g, l, s, e, _⟩ => by rw [e]; rfl) fun f cdv A outer s0 H E hr Γ Q R ⟨C, a, dx, da, g, l, s, e, hC, hg, hs, h16, hq⟩ => ?_
  subst e
  obtain ⟨C', kC, gC⟩ := id T.o_Counter
  obtain rfl := ns_one kC.ns hC
  have ng := T.a_Counter_grammar _ hC
  have hcost := made_cost hg
  obtain ⟨z1, z2, z3⟩ := hs.sizes hcost
  obtain ⟨f1, f2⟩ := hs.nofault
  obtain ⟨r, c, hp⟩ := hs.pin
  have hcs : s.c = s.t.cost g.rules := hs.gd.cs
  have hsh := shp_pk hp
  refine st_set 2 (x := Tup.mk [(r : Int), (c : Int)]) (ev_call (ok_size_of T) (hr.mono (by decide)) (ea_cons (x := s.p) (ev_of_en (en_call (ok_laid T) (hr.mono (by decide)) (ea_cons (x := g) (ev_cfld 0 kC.cl ng) (ea_cons (x := s.t) (ev_var 1) ea_nil)) fun P' R' h => ⟨g, s.t, rfl, by omega, hg.rs, fun _ => by rw [f2]; exact h, fun f e => by (rw [f1] at e; cases e)⟩)) ea_nil) fun P' R' h => ⟨s.p, r, c, rfl, hp, h⟩) ?_ sc_Counter_shape_of.nd
  refine st_retC 0 (x := shpOf s) (ev_eq (x := Sz3.mk (r : Int) (c : Int) s.c) (ev_sz3 (ev_tupH (es_cons (ev_d (α := Int) (ev_ixT (xs := Tup.mk [(r : Int), (c : Int)]) (ev_var 2) ev_int (atI_nat (j := 0) rfl))) (es_cons (ev_d (α := Int) (ev_ixT (xs := Tup.mk [(r : Int), (c : Int)]) (ev_var 2) ev_int (atI_nat (j := 1) rfl))) (es_cons (ev_d (α := Int) (x := s.c) (ev_call (ok_cost_of T) (hr.mono (by decide)) (ea_cons (x := g) (ev_cfld 0 kC.cl ng) (ea_cons (x := s.t) (ev_var 1) ea_nil)) fun P' R' h => ⟨g, s.t, rfl, by omega, by omega, hg.rs, fun _ => by rw [← hcs]; exact h, fun f e => by (rw [f1] at e; cases e)⟩)) es_nil))))) hsh.symm) hq
theorem ok_number_by (T : Txt K mg) {d lv : Nat} (h90 : 90 ≤ lv) (N : HasM P w K mg base lv "Counter" "number" ["self", "tree"] (numNS K d)) : HasM P w K mg base (lv + 1) "Counter" "number_by" ["self", "rule", "shape", "tree"] (nbS K d) := by
  refine HasM.of T.m_Counter_number_by sc_Counter_number_by (fun A Q R ⟨C, a, dx, da, g, l, q, x, t, y, e, _⟩ => by rw [e]; rfl) fun f cdv A outer s0 H E hr Γ Q R ⟨C, a, dx, da, g, l, q, x, t, y, e, hC, hg, hk, hqm, hx, hby, hq⟩ => ?_
  subst e
  obtain ⟨C', kC, gC⟩ := id T.o_Counter
  obtain rfl := ns_one kC.ns hC
  have hcosts := made_cost hg
  have hcost := hcosts q hqm
  have hpn := made_names hg hqm
  obtain ⟨x1, x2, x3, x4, x5, x6⟩ := hx
  rcases by_kinds hby with ⟨n, co, sg, rfl, h1, rfl⟩ | ⟨n, co, b, tn, s, rfl, h1, hsn, hG, hsh⟩ | ⟨sd, n, co, u, v, eq, h2⟩
  · refine st_if (k := true) (et_val (ev_isiI T.b_isinstance T.o_CellRule T.o_CellRule T.u_CellRule_CellRule rfl (ev_var 1))) (fun _ => ?_) (fun h => nomatch h)
    exact st_retC 0 (x := (0 : Int)) ev_int (hq l hk)
  · refine st_if (k := false) (et_val (ev_isiI T.b_isinstance T.o_TurnRule T.o_CellRule T.u_TurnRule_CellRule rfl (ev_var 1))) (fun h => nomatch h) (fun _ => st_nil ?_)
    refine st_if (k := true) (et_val (ev_isiI T.b_isinstance T.o_TurnRule T.o_TurnRule T.u_TurnRule_TurnRule rfl (ev_var 1))) (fun _ => ?_) (fun h => nomatch h)
    have hcost : 1 ≤ co := hcost
    have hsc : s.c = x.k - co := by
      have : (shpOf s).k = x.k - co := by rw [hsh]; split <;> rfl
      exact this
    refine st_retGC 0 (l' := repInt) (G := fun (z : Int) o => ∃ l2, Kept g l2 ∧ z = y ∧ o = cO C a dx da g l2) (eg_methC 0 (lr := repInt) (m := "number") (G := fun z o => ∃ l', Kept g l' ∧ z = y ∧ o = cO C a dx da g l') T.o_Counter N (hr.mono (by omega)) hC (by decide) (by decide) (ea_cons (x := s.t) (ev_sub (k := 0) (t := t) (ev_var 3) ev_int (by rw [h1]; rfl) rfl) ea_nil) rfl rfl (fun _ _ ⟨l', _, _, e⟩ => by rw [e]; rfl) (fun z o ⟨l', h1, h2, h3⟩ => ⟨z, o, ⟨l', h1, h2, h3⟩, rfl, rfl⟩) fun P' R' h' _ => ⟨C, a, dx, da, g, l, s, y, rfl, hC, hg, hk, hG, by omega, fun l' hl' => h' _ _ ⟨l', hl', rfl, rfl⟩⟩) fun z o ⟨l2, h1, h2, h3⟩ => ?_
    rw [h3, h2]
    exact hq l2 h1
  · obtain ⟨uC, uT, _, _, _, _⟩ := two_facts T eq
    refine st_if (k := false) (et_val (ev_isiI T.b_isinstance (o_cls T q) T.o_CellRule uC rfl (ev_var (x := q) 1))) (fun h => nomatch h) (fun _ => st_nil ?_)
    refine st_if (k := false) (et_val (ev_isiI T.b_isinstance (o_cls T q) T.o_TurnRule uT rfl (ev_var (x := q) 1))) (fun h => nomatch h) (fun _ => st_nil ?_)
    obtain ⟨q1, q2, sh, z1, z2, j, hts, rfl, rfl, g1, g2, s1, s2, hj, hft, hy⟩ := h2.ex
    have hqc : q.cost = co := by rw [eq]; cases sd <;> rfl
    have hqp : q.parts = [q1.n, q2.n] := by rw [eq]; cases sd <;> rfl
    have hqq : q = .beside q.name q.cost q1.n q2.n ∨ q = .above q.name q.cost q1.n q2.n := by rw [eq]; cases sd <;> first | exact .inl rfl | exact .inr rfl
    rw [hqc] at hcost
    have hin := shares_in (List.mem_of_getElem? hj)
    have m3 := hin.k1
    have m4 := hin.k2
    have m5 := hin.ks
    have c1 : q1.c = sh.1.k := by rw [← s1]; rfl
    have c2 : q2.c = sh.2.k := by rw [← s2]; rfl
    obtain ⟨a1, a2⟩ := GNd.bd hcosts d q1 z1 g1
    obtain ⟨b1, b2⟩ := GNd.bd hcosts d q2 z2 g2
    refine st_setGE 4 (i := repSz3) (G := fun z Γ' => z = shpOf q1 ∧ Γ' = [.own (cO C a dx da g l), vl q, vl x, vl t, .no, .no, .no, .no, .no]) (eg_methC 0 (lr := repSz3) (m := "shape_of") (G := fun z o => z = shpOf q1 ∧ o = cO C a dx da g l) T.o_Counter (ok_shape_of T) (hr.mono (by omega)) hC (by decide) (by decide) (ea_cons (x := q1.t) (ev_sub (k := 0) (t := t) (ev_var 3) ev_int (by rw [hts]; rfl) rfl) ea_nil) rfl rfl (fun _ _ ⟨_, e⟩ => by rw [e]; rfl) (fun z o ⟨h1, h2⟩ => ⟨z, ⟨h1, by rw [h2]; rfl⟩, rfl⟩) fun P' R' h _ => ⟨C, a, dx, da, g, l, q1, rfl, hC, hg, g1.ok, by omega, h _ _ ⟨rfl, rfl⟩⟩) (fun z Γ' hz => ?_) sc_Counter_number_by.nd
    obtain ⟨rfl, rfl⟩ := hz
    refine st_set 5 (x := (0 : Int)) ev_int ?_ sc_Counter_number_by.nd
    refine st_for (fun m Γ' => ∃ l', Le Γ' [.own (cO C a dx da g l'), vl q, vl x, vl t, vl (shpOf q1), vl (shSum g.rules sd q1.n q2.n x.r x.c (x.k - co) m), .no, .no, .no] ∧ Kept g l' ∧ m ≤ j) (src_list (xs := sharesL sd x.r x.c (x.k - co)) (ev_of_en (en_call (ok_shares T) (hr.mono (by omega)) (ea_cons (x := q) (ev_var 1) (ea_cons (x := x.r) (ev_sz0 (q := x) (ev_var 2) ev_int) (ea_cons (x := x.c) (ev_sz1 (q := x) (ev_var 2) ev_int) (ea_cons (x := x.k - co) (ev_bin o_sub (ev_sz2 (q := x) (ev_var 2) ev_int) (ev_fld (x := q) (y := co) (o_cls T q) (a_cost T q) rfl (hqc ▸ RuleD.f_cost _) (ev_var 1))) ea_nil)))) fun P' R' h' => ⟨q, x.r, x.c, x.k - co, rfl, x2, x4, by omega, by omega, by omega, by omega, by rw [hqp]; rfl, fun n' co' a' b' e => by (rw [eq] at e; cases sd; cases e; exact h'), fun n' co' a' b' e => by (rw [eq] at e; cases sd; exact h'; cases e)⟩))) (tg_pair 6 7 (by decide)) ⟨l, Le.refl, hk, Nat.zero_le _⟩ (fun m p Γ' hm hP => ?_) (fun Γ' hP => ?_) (pg2 6 7 (pgn 6 sc_Counter_number_by.nd) (pgn 7 sc_Counter_number_by.nd))
    · obtain ⟨l1, le, hk1, hmj⟩ := hP
      have hip := shares_in (List.mem_of_getElem? hm)
      obtain ⟨i1, i2, i3, i4⟩ := hip.pos x1 x3
      have j1 := hip.r1
      have j2 := hip.c1
      have j3 := hip.r2
      have j4 := hip.c2
      have j5 := hip.k1
      have j6 := hip.k2
      have j7 := hip.ks
      refine st_le (Le.set (Le.set le 6 _) 7 _) ?_
      refine st_setGE 8 (i := repPair) (G := fun (z : Int × Int) Γ' => ∃ l', Kept g l' ∧ (z.1 * z.2 = mulS (cntT g.rules) q1.n q2.n p ∧ CMulW z.1 z.2 ∧ (cntT g.rules q1.n p.1.r p.1.c p.1.k ≠ 0 → z = (cntT g.rules q1.n p.1.r p.1.c p.1.k, cntT g.rules q2.n p.2.r p.2.c p.2.k))) ∧ Γ' = [.own (cO C a dx da g l'), vl q, vl x, vl t, vl (shpOf q1), vl (shSum g.rules sd q1.n q2.n x.r x.c (x.k - co) m), vl p.1, vl p.2, .no]) (eg_methC 0 (lr := repPair) (m := "of_shares") (G := fun (z : Int × Int) o => ∃ l', Kept g l' ∧ (z.1 * z.2 = mulS (cntT g.rules) q1.n q2.n p ∧ CMulW z.1 z.2 ∧ (cntT g.rules q1.n p.1.r p.1.c p.1.k ≠ 0 → z = (cntT g.rules q1.n p.1.r p.1.c p.1.k, cntT g.rules q2.n p.2.r p.2.c p.2.k))) ∧ o = cO C a dx da g l') T.o_Counter (of_shares16 T) (hr.mono (by omega)) hC (by decide) (by decide) (ea_cons (x := q) (ev_var 1) (ea_cons (x := p.1) (ev_var 6) (ea_cons (x := p.2) (ev_var 7) ea_nil))) rfl rfl (fun _ _ ⟨l', _, _, e⟩ => by rw [e]; rfl) (fun z o ⟨l', h1, h2, h3⟩ => ⟨z, ⟨l', h1, h2, by rw [h3]; rfl⟩, rfl⟩) fun P' R' h' _ => ⟨C, a, dx, da, g, l1, q, true, q1.n, q2.n, p, rfl, hC, hg, hk1, hqq, ⟨hpn q1.n (by rw [hqp]; simp), i1, (by omega : p.1.r ≤ 8), i2, (by omega : p.1.c ≤ 8), j5, (by omega : p.1.k ≤ 40)⟩, ⟨hpn q2.n (by rw [hqp]; simp), i3, (by omega : p.2.r ≤ 8), i4, (by omega : p.2.c ≤ 8), j6, (by omega : p.2.k ≤ 40)⟩, by omega, by omega, fun l' z hl' hy1 hy2 hy3 => h' _ _ ⟨l', hl', ⟨hy1, hy2, hy3⟩, rfl⟩⟩) (fun z Γ' hz => ?_) sc_Counter_number_by.nd
      obtain ⟨l2, hl2, ⟨hy1, hy2, hy3⟩, rfl⟩ := hz
      by_cases hmj' : m = j
      · subst hmj'
        rw [hj] at hm
        obtain rfl := Option.some.inj hm
        rw [s1] at a2
        rw [s2] at b2
        have hz := hy3 (by omega)
        rw [hz] at hy2
        have hz1 : z.2 = cntT g.rules q2.n sh.2.r sh.2.c sh.2.k := by rw [hz]
        refine st_if (k := true) (et_cmp (o_eqY (x := sh.1) (y := shpOf q1) (kb := true) hr (sz_dep _) (sz_dep _) (by rw [s1]; simp)) (ev_var 6) (ev_var 4)) (fun _ => ?_) (fun h => nomatch h)
        refine st_retGC 0 (l' := repInt) (G := fun v o => ∃ l2, Kept g l2 ∧ v = y ∧ o = cO C a dx da g l2) (eg_imp (eg_bin2 (op := .Add) (i := repInt) (j := repInt) (l := repInt) (g := fun v u => v + u)
          (N := fun v Γ' => ∃ l3, Kept g l3 ∧ v = shSum g.rules sd q1.n q2.n x.r x.c (x.k - co) m + z1 * z.2 ∧ Γ' = [.own (cO C a dx da g l3), vl q, vl x, vl t, vl (shpOf q1), vl (shSum g.rules sd q1.n q2.n x.r x.c (x.k - co) m), vl sh.1, vl sh.2, vl z]) (M := fun v u Γ' => ∃ l3, Kept g l3 ∧ v = shSum g.rules sd q1.n q2.n x.r x.c (x.k - co) m + z1 * z.2 ∧ u = z2 ∧ Γ' = [.own (cO C a dx da g l3), vl q, vl x, vl t, vl (shpOf q1), vl (shSum g.rules sd q1.n q2.n x.r x.c (x.k - co) m), vl sh.1, vl sh.2, vl z]) (fun _ _ _ _ => o_add)
          (eg_imp (eg_binR (op := .Add) (i' := repInt) (j' := repInt) (l' := repInt) (x := shSum g.rules sd q1.n q2.n x.r x.c (x.k - co) m) (g := fun v => shSum g.rules sd q1.n q2.n x.r x.c (x.k - co) m + v) (N := fun v Γ' => ∃ l3, Kept g l3 ∧ v = z1 * z.2 ∧ Γ' = [.own (cO C a dx da g l3), vl q, vl x, vl t, vl (shpOf q1), vl (shSum g.rules sd q1.n q2.n x.r x.c (x.k - co) m), vl sh.1, vl sh.2, vl z]) (fun _ _ _ => o_add) (ev_var 5)
            (eg_imp (eg_bin2 (op := .Mult) (i := repInt) (j := repInt) (l := repInt) (g := fun v u => v * u) (N := fun v Γ' => ∃ l3, Kept g l3 ∧ v = z1 ∧ Γ' = [.own (cO C a dx da g l3), vl q, vl x, vl t, vl (shpOf q1), vl (shSum g.rules sd q1.n q2.n x.r x.c (x.k - co) m), vl sh.1, vl sh.2, vl z]) (M := fun v u Γ' => ∃ l3, Kept g l3 ∧ v = z1 ∧ u = z.2 ∧ Γ' = [.own (cO C a dx da g l3), vl q, vl x, vl t, vl (shpOf q1), vl (shSum g.rules sd q1.n q2.n x.r x.c (x.k - co) m), vl sh.1, vl sh.2, vl z]) (fun v u Γ' ⟨_, _, hv, hu, _⟩ => o_mulW (by rw [hv, hu, hz1]; exact mulW_lt a1 a2 hy2))
              (eg_methC 0 (lr := repInt) (m := "number") (G := fun v o => ∃ l', Kept g l' ∧ v = z1 ∧ o = cO C a dx da g l') T.o_Counter N (hr.mono (by omega)) hC (by decide) (by decide) (ea_cons (x := q1.t) (ev_sub (k := 0) (t := t) (ev_var 3) ev_int (by rw [hts]; rfl) rfl) ea_nil) rfl rfl (fun _ _ ⟨l', _, _, e⟩ => by rw [e]; rfl) (fun v o ⟨l', h1, h2, h3⟩ => ⟨v, ⟨l', h1, h2, by rw [h3]; rfl⟩, rfl⟩) fun P' R' h' _ => ⟨C, a, dx, da, g, l2, q1, z1, rfl, hC, hg, hl2, g1, by omega, fun l' hl' => h' _ _ ⟨l', hl', rfl, rfl⟩⟩)
              (fun v Γ' ⟨l3, h1, h2, h3⟩ => by
                subst h3
                exact eg_imp (eg_ev (ev_snd (x := z) (ev_var 8))) fun r Γ'' ⟨u, ⟨hu, hΓ⟩, e⟩ => ⟨u, ⟨l3, h1, h2, hu, hΓ⟩, e⟩)) fun r Γ' ⟨v, ⟨v1, u1, ⟨l3, h1, h2, h3, h4⟩, h5⟩, e⟩ => ⟨v, ⟨l3, h1, by rw [h5, h2, h3], h4⟩, e⟩)) fun r Γ' ⟨v, ⟨u, ⟨l3, h1, h2, h3⟩, h4⟩, e⟩ => ⟨v, ⟨l3, h1, by rw [h4, h2], h3⟩, e⟩)
          (fun v Γ' ⟨l3, h1, h2, h3⟩ => by
            subst h3
            exact eg_methC 0 (lr := repInt) (m := "number") (G := fun u o => ∃ l', Kept g l' ∧ u = z2 ∧ o = cO C a dx da g l') T.o_Counter N (hr.mono (by omega)) hC (by decide) (by decide) (ea_cons (x := q2.t) (ev_sub (k := 1) (t := t) (ev_var 3) ev_int (by rw [hts]; rfl) rfl) ea_nil) rfl rfl (fun _ _ ⟨l', _, _, e⟩ => by rw [e]; rfl) (fun u o ⟨l', g1, g2, g3⟩ => ⟨u, ⟨l', g1, h2, g2, by rw [g3]; rfl⟩, rfl⟩) fun P' R' h' _ => ⟨C, a, dx, da, g, l3, q2, z2, rfl, hC, hg, h1, g2, by omega, fun l' hl' => h' _ _ ⟨l', hl', rfl, rfl⟩⟩)) fun r Γ' ⟨v, ⟨v1, u1, ⟨l3, h1, h2, h3, h4⟩, h5⟩, e⟩ => ⟨v, cO C a dx da g l3, ⟨l3, h1, by rw [h5, h2, h3, hy, hz1]; omega, rfl⟩, e, by rw [h4]; rfl⟩) fun v o ⟨l3, h1, h2, h3⟩ => ?_
        rw [h2, h3]
        exact hq l3 h1
      · refine st_if (k := false) (et_cmp (o_eqY (x := p.1) (y := shpOf q1) (kb := false) hr (sz_dep _) (sz_dep _) ⟨fun z => (by cases z), fun z => absurd ((sz_inj.mp z).trans s1) (hft m (by omega) p hm)⟩) (ev_var 6) (ev_var 4)) (fun h => nomatch h) (fun _ => st_nil ?_)
        refine st_set 5 (x := shSum g.rules sd q1.n q2.n x.r x.c (x.k - co) (m + 1)) (ev_eq (ev_bin o_add (ev_var 5) (ev_bin (o_mulW hy2) (ev_fst (x := z) (ev_var 8)) (ev_snd (x := z) (ev_var 8)))) (by rw [hy1]; exact (take_sum hm).symm)) (st_nil ?_) sc_Counter_number_by.nd
        exact ⟨l2, le_cons (le_cons (le_cons (le_cons (le_cons (le_cons (le_no (le_no (le_no le_nil)))))))), hl2, by omega⟩
    · obtain ⟨l1, le, hk1, hmj⟩ := hP
      have := (List.getElem?_eq_some_iff.mp hj).1
      omega
end
theorem CDiv.of_log {i j : Int} (h : 0 < j) (h2 : j.natAbs.log2 < 1000) : CDivW i j := ⟨h, by omega⟩
theorem div_of {z1 cb z2 : Int} (h1 : 0 ≤ z2) (h2 : z2 < cb) : (z1 * cb + z2) / cb = z1 ∧ (z1 * cb + z2) % cb = z2 := by
  have hcb : cb ≠ 0 := by omega
  rw [Int.add_comm, Int.add_mul_ediv_right _ _ hcb, Int.ediv_eq_zero_of_lt h1 h2, Int.add_mul_emod_self_right, Int.emod_eq_of_lt h1 h2]
  exact ⟨by omega, rfl⟩
section
variable {P : Program} {w : World} {K : PySem.W.Frag} {mg : Str → Option Value} {base : Heap}
theorem ok_number (T : Txt K mg) {d lv : Nat} (h90 : 90 ≤ lv) (B : HasM P w K mg base lv "Counter" "number_by" ["self", "rule", "shape", "tree"] (nbS K d)) : HasM P w K mg base (lv + 1) "Counter" "number" ["self", "tree"] (numNS K (d + 1)) := by
  refine HasM.of T.m_Counter_number sc_Counter_number (fun A Q R ⟨C, a, dx, da, g, l, s, z, e, _⟩ => by rw [e]; rfl) fun f cdv A outer s0 H E hr Γ Q R ⟨C, a, dx, da, g, l, s, z, e, hC, hg, hk, hz, hc16, hq⟩ => ?_
  subst e
  obtain ⟨C', kC, gC⟩ := id T.o_Counter
  obtain rfl := ns_one kC.ns hC
  have ng := T.a_Counter_grammar _ hC
  have hcosts := made_cost hg
  obtain ⟨j, y, hn, hzy, hby⟩ := hz
  have hb := hn.ok.box hcosts hc16
  obtain ⟨x1, x2, x3, x4, x5, x6⟩ := id hb
  obtain ⟨hat, hmem⟩ := rule_at hn.inr
  have hnm : s.n ∈ g.names := by rw [← hn.nm]; exact made_nm hg hmem
  have h24 := hg.ok.many
  refine st_setGE 2 (i := repSz3) (G := fun x Γ' => x = shpOf s ∧ Γ' = [.own (cO C a dx da g l), vl s.t, .no, .no, .no, .no]) (eg_methC 0 (lr := repSz3) (m := "shape_of") (G := fun x o => x = shpOf s ∧ o = cO C a dx da g l) T.o_Counter (ok_shape_of T) (hr.mono (by omega)) hC (by decide) (by decide) (ea_cons (x := s.t) (ev_var 1) ea_nil) rfl rfl (fun _ _ ⟨_, e⟩ => by rw [e]; rfl) (fun x o ⟨h1, h2⟩ => ⟨x, ⟨h1, by rw [h2]; rfl⟩, rfl⟩) fun P' R' h _ => ⟨C, a, dx, da, g, l, s, rfl, hC, hg, hn.ok, hc16, h _ _ ⟨rfl, rfl⟩⟩) (fun x Γ' hx => ?_) sc_Counter_number.nd
  obtain ⟨rfl, rfl⟩ := hx
  refine st_set 3 (x := ruleAt g.rules s.t.num) (ev_of_ex (ex_of_exx (exx_meth (x := g) T.o_Grammar (ok_Grammar_rule T) (hr.mono (by omega)) rfl (lk rfl) (ev_cfld 0 kC.cl ng) (ea_cons (x := s.t.num) (ev_num (ev_var 1) ev_int) ea_nil) fun P' R' h' _ => ⟨g, _, _, rfl, hat, h' _ rfl⟩))) ?_ sc_Counter_number.nd
  refine st_set 4 (x := (0 : Int)) ev_int ?_ sc_Counter_number.nd
  refine st_for (fun m Γ' => ∃ l', Le Γ' [.own (cO C a dx da g l'), vl s.t, vl (shpOf s), vl (ruleAt g.rules s.t.num), vl (nmSum g.rules s.n (shpOf s) m), .no] ∧ Kept g l' ∧ m ≤ j) (src_list (xs := numbersL s.n g.rules) (ev_of_en (en_of_ex (ex_of_exx (exx_meth (x := g) T.o_Grammar (ok_Grammar_numbers_of T) (hr.mono (by omega)) rfl (lk rfl) (ev_cfld 0 kC.cl ng) (ea_cons (x := s.n) (ev_fld (x := ruleAt g.rules s.t.num) (y := s.n) (o_cls T _) (a_name T _) rfl (hn.nm ▸ RuleD.f_name _) (ev_var 3)) ea_nil) fun P' R' h' _ => ⟨g, s.n, rfl, by omega, fun _ => h' _ rfl, fun z => absurd hnm z⟩))))) (tg_name 5) ⟨l, Le.refl, hk, Nat.zero_le _⟩ (fun m i Γ' hm hP => ?_) (fun Γ' hP => ?_) (pgn 5 sc_Counter_number.nd)
  · obtain ⟨l1, le, hk1, hmj⟩ := hP
    obtain ⟨q, hqa, hqm, hqf⟩ := nums_at hm
    refine st_le (Le.set le 5 _) ?_
    by_cases hj : m = j
    · subst hj
      have hi : i = s.t.num := by rw [hn.at_] at hm; exact (Option.some.inj hm).symm
      refine st_if (k := true) (et_eq (et_cmp o_eq (ev_var 5) (ev_num (ev_var 1) ev_int)) (decide_eq_true hi)) (fun _ => ?_) (fun h => nomatch h)
      refine st_break ?_
      refine st_retGC 0 (l' := repInt) (G := fun v o => ∃ l2, Kept g l2 ∧ v = z ∧ o = cO C a dx da g l2) (eg_imp (eg_binR (op := .Add) (i' := repInt) (j' := repInt) (l' := repInt) (x := nmSum g.rules s.n (shpOf s) m) (N := fun v Γ' => ∃ l2, Kept g l2 ∧ v = y ∧ Γ' = [.own (cO C a dx da g l2), vl s.t, vl (shpOf s), vl (ruleAt g.rules s.t.num), vl (nmSum g.rules s.n (shpOf s) m), vl i]) (g := fun v => nmSum g.rules s.n (shpOf s) m + v) (fun _ _ _ => o_add) (ev_var 4) (eg_methC 0 (lr := repInt) (m := "number_by") (G := fun v o => ∃ l2, Kept g l2 ∧ v = y ∧ o = cO C a dx da g l2) T.o_Counter B (hr.mono (by omega)) hC (by decide) (by decide) (ea_cons (x := ruleAt g.rules s.t.num) (ev_var 3) (ea_cons (x := shpOf s) (ev_var 2) (ea_cons (x := s.t) (ev_var 1) ea_nil))) rfl rfl (fun _ _ ⟨l', _, _, e⟩ => by rw [e]; rfl) (fun v o ⟨l', h1, h2, h3⟩ => ⟨v, ⟨l', h1, h2, by rw [h3]; rfl⟩, rfl⟩) fun P' R' h _ => ⟨C, a, dx, da, g, l1, ruleAt g.rules s.t.num, shpOf s, s.t, y, rfl, hC, hg, hk1, hmem, hb, hby, fun l' hl' => h _ _ ⟨l', hl', rfl, rfl⟩⟩)) (fun r Γ' ⟨v, ⟨u, ⟨l2, h1, h2, h3⟩, h4⟩, h5⟩ => ⟨v, cO C a dx da g l2, ⟨l2, h1, by rw [h4, h2, hzy], rfl⟩, h5, by rw [h3]; rfl⟩)) fun v o ⟨l2, h1, h2, h3⟩ => ?_
      rw [h2, h3]
      exact hq l2 h1
    · have hi : i ≠ s.t.num := fun e => hn.ft m (by omega) (by rw [hm, e])
      refine st_if (k := false) (et_eq (et_cmp o_eq (ev_var 5) (ev_num (ev_var 1) ev_int)) (decide_eq_false hi)) (fun h => nomatch h) (fun _ => st_nil ?_)
      refine st_setGE 4 (i := repInt) (G := fun v Γ' => ∃ l', Kept g l' ∧ v = nmSum g.rules s.n (shpOf s) m + cntR (cntT g.rules) q (shpOf s).r (shpOf s).c (shpOf s).k ∧ Γ' = [.own (cO C a dx da g l'), vl s.t, vl (shpOf s), vl (ruleAt g.rules s.t.num), vl (nmSum g.rules s.n (shpOf s) m), vl i]) (eg_imp (eg_binR (op := .Add) (i' := repInt) (j' := repInt) (l' := repInt) (x := nmSum g.rules s.n (shpOf s) m) (N := fun v Γ' => ∃ l', Kept g l' ∧ v = cntR (cntT g.rules) q (shpOf s).r (shpOf s).c (shpOf s).k ∧ Γ' = [.own (cO C a dx da g l'), vl s.t, vl (shpOf s), vl (ruleAt g.rules s.t.num), vl (nmSum g.rules s.n (shpOf s) m), vl i]) (g := fun v => nmSum g.rules s.n (shpOf s) m + v) (fun _ _ _ => o_add) (ev_var 4) (eg_methC 0 (lr := repInt) (m := "of_rule") (G := fun v o => ∃ l', Kept g l' ∧ v = cntR (cntT g.rules) q (shpOf s).r (shpOf s).c (shpOf s).k ∧ o = cO C a dx da g l') T.o_Counter (of_rule16 T) (hr.mono (by omega)) hC (by decide) (by decide) (ea_cons (x := q) (ev_of_ex (ex_of_exx (exx_meth (x := g) T.o_Grammar (ok_Grammar_rule T) (hr.mono (by omega)) rfl (lk rfl) (ev_cfld 0 kC.cl ng) (ea_cons (x := i) (ev_var 5) ea_nil) fun P' R' h' _ => ⟨g, i, q, rfl, hqa, h' _ rfl⟩))) (ea_cons (ev_sz0 (q := shpOf s) (ev_var 2) ev_int) (ea_cons (ev_sz1 (q := shpOf s) (ev_var 2) ev_int) (ea_cons (ev_sz2 (q := shpOf s) (ev_var 2) ev_int) ea_nil)))) rfl rfl (fun _ _ ⟨l', _, _, e⟩ => by rw [e]; rfl) (fun v o ⟨l', h1, h2, h3⟩ => ⟨v, ⟨l', h1, h2, by rw [h3]; rfl⟩, rfl⟩) fun P' R' h' _ => ⟨C, a, dx, da, g, l1, q, _, _, _, rfl, hC, hg, hk1, hqm, x1, x2, x3, x4, x5, by omega, by omega, fun l' hl' => h' _ _ ⟨l', hl', rfl, rfl⟩⟩)) (fun rr Γ' ⟨v, ⟨u, ⟨l', h1, h2, h3⟩, h4⟩, h5⟩ => ⟨v, ⟨l', h1, by rw [h4, h2], h3⟩, h5⟩)) (fun v Γ' hv => ?_) sc_Counter_number.nd
      obtain ⟨l2, hl2, rfl, rfl⟩ := hv
      refine st_nil ⟨l2, ?_, hl2, by omega⟩
      rw [show nmSum g.rules s.n (shpOf s) m + cntR (cntT g.rules) q (shpOf s).r (shpOf s).c (shpOf s).k = nmSum g.rules s.n (shpOf s) (m + 1) from (take_sum (f := fun q => cntR (cntT g.rules) q (shpOf s).r (shpOf s).c (shpOf s).k) hqf).symm]
      exact le_cons (le_cons (le_cons (le_cons (le_cons (le_no le_nil)))))
  · obtain ⟨l1, le, hk1, hmj⟩ := hP
    have := (List.getElem?_eq_some_iff.mp hn.at_).1
    omega
theorem ok_tree_by (T : Txt K mg) {d lv : Nat} (h52 : 52 ≤ lv) (N : HasM P w K mg base lv "Counter" "tree" ["self", "name", "rows", "columns", "cost", "k"] (treeNS K d)) : HasM P w K mg base (lv + 1) "Counter" "tree_by" ["self", "number", "rule", "shape", "k"] (tbS K d) := by
  refine HasM.of T.m_Counter_tree_by sc_Counter_tree_by (fun A Q R ⟨C, a, dx, da, g, l, q, x, t, y, e, _⟩ => by rw [e]; rfl) fun f cdv A outer s0 H E hr Γ Q R ⟨C, a, dx, da, g, l, q, x, t, y, e, hC, hg, hk, hqm, hx, hby, hq⟩ => ?_
  subst e
  obtain ⟨C', kC, gC⟩ := id T.o_Counter
  obtain rfl := ns_one kC.ns hC
  have hcosts := made_cost hg
  have hcost := hcosts q hqm
  have h24 := hg.ok.many
  have hpn := made_names hg hqm
  obtain ⟨x1, x2, x3, x4, x5, x6⟩ := hx
  obtain ⟨i, ts⟩ := t
  have hby : GBy (GNd g.rules d) g.rules q ts x y := hby
  rcases by_kinds hby with ⟨n, co, sg, rfl, rfl, rfl⟩ | ⟨n, co, b, tn, s, rfl, rfl, rfl, hG, hsh⟩ | ⟨sd, n, co, u, v, eq, h2⟩
  · refine st_if (k := true) (et_val (ev_isiI T.b_isinstance T.o_CellRule T.o_CellRule T.u_CellRule_CellRule rfl (ev_var 2))) (fun _ => ?_) (fun h => nomatch h)
    exact st_retC 0 (x := Tr.node i []) (ev_ofTup (t := Tr.node i []) (xs := [Dy.i i]) (ev_tupH (es_cons (ev_d (α := Int) (ev_var (x := i) 1)) es_nil)) (Tr.d_eq _)) (hq l hk)
  · refine st_if (k := false) (et_val (ev_isiI T.b_isinstance T.o_TurnRule T.o_CellRule T.u_TurnRule_CellRule rfl (ev_var 2))) (fun h => nomatch h) (fun _ => st_nil ?_)
    have hcost : 1 ≤ co := hcost
    refine st_set 5 (x := x.k - co) (ev_bin o_sub (ev_sz2 (q := x) (ev_var 3) ev_int) (ev_fld (x := RuleD.turn n co s.n tn) (y := co) T.o_TurnRule (a_cost T (.turn n co s.n tn)) rfl rfl (ev_var 2))) ?_ sc_Counter_tree_by.nd
    refine st_if (k := true) (et_val (ev_isiI T.b_isinstance T.o_TurnRule T.o_TurnRule T.u_TurnRule_TurnRule rfl (ev_var 2))) (fun _ => ?_) (fun h => nomatch h)
    have hsc : s.c = x.k - co := by
      have : (shpOf s).k = x.k - co := by rw [hsh]; split <;> rfl
      exact this
    refine st_set 6 (x := ((if tn % 2 = 1 then (x.c, x.r) else (x.r, x.c)) : Int × Int)) (ev_call (ok_before_turning T) (hr.mono (by omega)) (ea_cons (x := RuleD.turn n co s.n tn) (ev_var 2) (ea_cons (x := x.r) (ev_sz0 (q := x) (ev_var 3) ev_int) (ea_cons (x := x.c) (ev_sz1 (q := x) (ev_var 3) ev_int) ea_nil))) fun P' R' h => ⟨n, co, s.n, tn, x.r, x.c, rfl, h⟩) ?_ sc_Counter_tree_by.nd
    have hpr : ∀ z : Int × Int, z = (if tn % 2 = 1 then (x.c, x.r) else (x.r, x.c)) → (⟨z.1, z.2, x.k - co⟩ : Sz3) = shpOf s := fun z hz => by
      rw [hsh, hz]; split <;> rfl
    have hpr := hpr _ rfl
    generalize ((if tn % 2 = 1 then (x.c, x.r) else (x.r, x.c)) : Int × Int) = z at hpr
    refine st_retGC 0 (l' := repTr) (G := fun u o => ∃ l2, Kept g l2 ∧ u = Tr.node i [s.t] ∧ o = cO C a dx da g l2) (eg_imp (eg_d2R (α := Int) (β := Tr) (γ := Tr) (x := i) (g := fun u => Tr.node i [u]) (N := fun u Γ' => ∃ l2, Kept g l2 ∧ u = s.t ∧ Γ' = [.own (cO C a dx da g l2), vl i, vl (RuleD.turn n co s.n tn), vl x, vl y, vl (x.k - co), vl z, .no, .no, .no, .no]) (fun u => Tr.d_eq _) (ev_var 1)
      (eg_methC 0 (lr := repTr) (m := "tree") (G := fun u o => ∃ l', Kept g l' ∧ u = s.t ∧ o = cO C a dx da g l') T.o_Counter N (hr.mono (by omega)) hC (by decide) (by decide) (ea_cons (x := s.n) (ev_fld (x := RuleD.turn n co s.n tn) (y := s.n) T.o_TurnRule T.a_TurnRule_part rfl rfl (ev_var 2)) (ea_cons (x := z.1) (ev_fst (x := z) (ev_var 6)) (ea_cons (x := z.2) (ev_snd (x := z) (ev_var 6)) (ea_cons (x := x.k - co) (ev_var 5) (ea_cons (x := y) (ev_var 4) ea_nil))))) rfl rfl (fun _ _ ⟨l', _, _, e⟩ => by rw [e]; rfl) (fun u o ⟨l', h1, h2, h3⟩ => ⟨u, ⟨l', h1, h2, by rw [h3]; rfl⟩, rfl⟩) fun P' R' h' _ => ⟨C, a, dx, da, g, l, s, ⟨z.1, z.2, x.k - co⟩, y, rfl, hC, hg, hk, hpr, hG, by omega, fun l' hl' => h' _ _ ⟨l', hl', rfl, rfl⟩⟩)) fun r Γ' ⟨u, ⟨u1, ⟨l2, h1, h2, h3⟩, h4⟩, e⟩ => ⟨u, cO C a dx da g l2, ⟨l2, h1, by rw [h4, h2], rfl⟩, e, by rw [h3]; rfl⟩) fun u o ⟨l2, h1, h2, h3⟩ => ?_
    rw [h2, h3]
    exact hq l2 h1
  · obtain ⟨uC, uT, n1, n2, f1, f2⟩ := two_facts T eq
    refine st_if (k := false) (et_val (ev_isiI T.b_isinstance (o_cls T q) T.o_CellRule uC rfl (ev_var (x := q) 2))) (fun h => nomatch h) (fun _ => st_nil ?_)
    obtain ⟨q1, q2, sh, z1, z2, j, rfl, rfl, rfl, g1, g2, s1, s2, hj, hft, hy⟩ := h2.ex
    have hqc : q.cost = co := by rw [eq]; cases sd <;> rfl
    have hqp : q.parts = [q1.n, q2.n] := by rw [eq]; cases sd <;> rfl
    have hqq : q = .beside q.name q.cost q1.n q2.n ∨ q = .above q.name q.cost q1.n q2.n := by rw [eq]; cases sd <;> first | exact .inl rfl | exact .inr rfl
    rw [hqc] at hcost
    have hin := shares_in (List.mem_of_getElem? hj)
    have m3 := hin.k1
    have m4 := hin.k2
    have m5 := hin.ks
    have c1 : q1.c = sh.1.k := by rw [← s1]; rfl
    have c2 : q2.c = sh.2.k := by rw [← s2]; rfl
    obtain ⟨a1, a2⟩ := GNd.bd hcosts d q1 z1 g1
    obtain ⟨b1, b2⟩ := GNd.bd hcosts d q2 z2 g2
    rw [s1] at a2
    rw [s2] at b2
    have hmul : mulS (cntT g.rules) q1.n q2.n sh = cntT g.rules q1.n sh.1.r sh.1.c sh.1.k * cntT g.rules q2.n sh.2.r sh.2.c sh.2.k := rfl
    have hnn : ∀ x, 0 ≤ mulS (cntT g.rules) q1.n q2.n x := fun x => Int.mul_nonneg (cntT_nn ..) (cntT_nn ..)
    refine st_set 5 (x := x.k - co) (ev_bin o_sub (ev_sz2 (q := x) (ev_var 3) ev_int) (ev_fld (x := q) (y := co) (o_cls T q) (a_cost T q) rfl (hqc ▸ RuleD.f_cost _) (ev_var 2))) ?_ sc_Counter_tree_by.nd
    refine st_if (k := false) (et_val (ev_isiI T.b_isinstance (o_cls T q) T.o_TurnRule uT rfl (ev_var (x := q) 2))) (fun h => nomatch h) (fun _ => st_nil ?_)
    refine st_for (fun m Γ' => ∃ l', Le Γ' [.own (cO C a dx da g l'), vl i, vl q, vl x, vl (y - shSum g.rules sd q1.n q2.n x.r x.c (x.k - co) m), vl (x.k - co), .no, .no, .no, .no, .no] ∧ Kept g l' ∧ m ≤ j) (src_list (xs := sharesL sd x.r x.c (x.k - co)) (ev_of_en (en_call (ok_shares T) (hr.mono (by omega)) (ea_cons (x := q) (ev_var 2) (ea_cons (x := x.r) (ev_sz0 (q := x) (ev_var 3) ev_int) (ea_cons (x := x.c) (ev_sz1 (q := x) (ev_var 3) ev_int) (ea_cons (x := x.k - co) (ev_var 5) ea_nil)))) fun P' R' h' => ⟨q, x.r, x.c, x.k - co, rfl, x2, x4, by omega, by omega, by omega, by omega, by rw [hqp]; rfl, fun n' co' a' b' e => by (rw [eq] at e; cases sd; cases e; exact h'), fun n' co' a' b' e => by (rw [eq] at e; cases sd; exact h'; cases e)⟩))) (tg_pair 7 8 (by decide)) ⟨l, by rw [show y - shSum g.rules sd q1.n q2.n x.r x.c (x.k - co) 0 = y from by unfold shSum; rw [List.take_zero]; show y - 0 = y; omega]; exact Le.refl, hk, Nat.zero_le _⟩ (fun m p Γ' hm hP => ?_) (fun Γ' hP => ?_) (pg2 7 8 (pgn 7 sc_Counter_tree_by.nd) (pgn 8 sc_Counter_tree_by.nd))
    · obtain ⟨l1, le, hk1, hmj⟩ := hP
      have hip := shares_in (List.mem_of_getElem? hm)
      obtain ⟨i1, i2, i3, i4⟩ := hip.pos x1 x3
      have j1 := hip.r1
      have j2 := hip.c1
      have j3 := hip.r2
      have j4 := hip.c2
      have j5 := hip.k1
      have j6 := hip.k2
      have j7 := hip.ks
      refine st_le (Le.set (Le.set le 7 _) 8 _) ?_
      generalize hkk : y - shSum g.rules sd q1.n q2.n x.r x.c (x.k - co) m = kk
      refine st_setGE 9 (i := repPair) (G := fun (z : Int × Int) Γ' => ∃ l', Kept g l' ∧ (z.1 * z.2 = mulS (cntT g.rules) q1.n q2.n p ∧ CMulW z.1 z.2 ∧ (cntT g.rules q1.n p.1.r p.1.c p.1.k ≠ 0 → z = (cntT g.rules q1.n p.1.r p.1.c p.1.k, cntT g.rules q2.n p.2.r p.2.c p.2.k))) ∧ Γ' = [.own (cO C a dx da g l'), vl i, vl q, vl x, vl kk, vl (x.k - co), .no, vl p.1, vl p.2, .no, .no]) (eg_methC 0 (lr := repPair) (m := "of_shares") (G := fun (z : Int × Int) o => ∃ l', Kept g l' ∧ (z.1 * z.2 = mulS (cntT g.rules) q1.n q2.n p ∧ CMulW z.1 z.2 ∧ (cntT g.rules q1.n p.1.r p.1.c p.1.k ≠ 0 → z = (cntT g.rules q1.n p.1.r p.1.c p.1.k, cntT g.rules q2.n p.2.r p.2.c p.2.k))) ∧ o = cO C a dx da g l') T.o_Counter (of_shares16 T) (hr.mono (by omega)) hC (by decide) (by decide) (ea_cons (x := q) (ev_var 2) (ea_cons (x := p.1) (ev_var 7) (ea_cons (x := p.2) (ev_var 8) ea_nil))) rfl rfl (fun _ _ ⟨l', _, _, e⟩ => by rw [e]; rfl) (fun z o ⟨l', h1, h2, h3⟩ => ⟨z, ⟨l', h1, h2, by rw [h3]; rfl⟩, rfl⟩) fun P' R' h' _ => ⟨C, a, dx, da, g, l1, q, true, q1.n, q2.n, p, rfl, hC, hg, hk1, hqq, ⟨hpn q1.n (by rw [hqp]; simp), i1, (by omega : p.1.r ≤ 8), i2, (by omega : p.1.c ≤ 8), j5, (by omega : p.1.k ≤ 40)⟩, ⟨hpn q2.n (by rw [hqp]; simp), i3, (by omega : p.2.r ≤ 8), i4, (by omega : p.2.c ≤ 8), j6, (by omega : p.2.k ≤ 40)⟩, by omega, by omega, fun l' z hl' hy1 hy2 hy3 => h' _ _ ⟨l', hl', ⟨hy1, hy2, hy3⟩, rfl⟩⟩) (fun z Γ' hz => ?_) sc_Counter_tree_by.nd
      obtain ⟨l2, hl2, ⟨hy1, hy2, hy3⟩, rfl⟩ := hz
      by_cases hmj' : m = j
      · subst hmj'
        rw [hj] at hm
        obtain rfl := Option.some.inj hm
        have hz := hy3 (by omega)
        have hcb : z.2 = cntT g.rules q2.n sh.2.r sh.2.c sh.2.k := by rw [hz]
        have hca : z.1 = cntT g.rules q1.n sh.1.r sh.1.c sh.1.k := by rw [hz]
        rw [← hcb] at hy b2
        rw [← hca] at a2
        have hkv : kk = z1 * z.2 + z2 := by omega
        have hlog : z.2.natAbs.log2 < 1000 := by
          rw [hcb]
          exact cnt_log hcosts (by omega) (by omega) (by omega) (by omega)
        have hlt : kk < z.1 * z.2 := by
          have : (z1 + 1) * z.2 ≤ z.1 * z.2 := Int.mul_le_mul_of_nonneg_right (by omega) (by omega)
          rw [Int.add_mul, Int.one_mul] at this
          omega
        obtain ⟨d1, d2⟩ := div_of (z1 := z1) b1 b2
        rw [← hkv] at d1 d2
        refine st_if (k := true) (et_eq (et_cmp o_lt (ev_var 4) (ev_bin (o_mulW hy2) (ev_fst (x := z) (ev_var 9)) (ev_snd (x := z) (ev_var 9)))) (decide_eq_true hlt)) (fun _ => ?_) (fun h => nomatch h)
        refine st_setGE 10 (i := repTr) (G := fun u Γ' => ∃ l', Kept g l' ∧ u = q1.t ∧ Γ' = [.own (cO C a dx da g l'), vl i, vl q, vl x, vl kk, vl (x.k - co), .no, vl sh.1, vl sh.2, vl z, .no]) (eg_methC 0 (lr := repTr) (m := "tree") (G := fun u o => ∃ l', Kept g l' ∧ u = q1.t ∧ o = cO C a dx da g l') T.o_Counter N (hr.mono (by omega)) hC (by decide) (by decide) (ea_cons (x := q1.n) (ev_fld (x := q) (y := q1.n) (o_cls T q) n1 rfl f1 (ev_var 2)) (ea_cons (x := sh.1.r) (ev_sz0 (q := sh.1) (ev_var 7) ev_int) (ea_cons (x := sh.1.c) (ev_sz1 (q := sh.1) (ev_var 7) ev_int) (ea_cons (x := sh.1.k) (ev_sz2 (q := sh.1) (ev_var 7) ev_int) (ea_cons (x := z1) (ev_eq (ev_bin (o_div (CDiv.of_log (by omega) hlog)) (ev_var 4) (ev_snd (x := z) (ev_var 9))) d1) ea_nil))))) rfl rfl (fun _ _ ⟨l', _, _, e⟩ => by rw [e]; rfl) (fun u o ⟨l', h1, h2, h3⟩ => ⟨u, ⟨l', h1, h2, by rw [h3]; rfl⟩, rfl⟩) fun P' R' h' _ => ⟨C, a, dx, da, g, l2, q1, sh.1, z1, rfl, hC, hg, hl2, s1.symm, g1, by omega, fun l' hl' => h' _ _ ⟨l', hl', rfl, rfl⟩⟩) (fun u Γ' hu => ?_) sc_Counter_tree_by.nd
        obtain ⟨l3, hl3, rfl, rfl⟩ := hu
        refine st_retGC 0 (l' := repTr) (G := fun u o => ∃ l2, Kept g l2 ∧ u = Tr.node i [q1.t, q2.t] ∧ o = cO C a dx da g l2) (eg_imp (eg_d3R (α := Int) (δ := Tr) (β := Tr) (γ := Tr) (x := i) (x2 := q1.t) (g := fun u => Tr.node i [q1.t, u]) (N := fun u Γ' => ∃ l2, Kept g l2 ∧ u = q2.t ∧ Γ' = [.own (cO C a dx da g l2), vl i, vl q, vl x, vl kk, vl (x.k - co), .no, vl sh.1, vl sh.2, vl z, vl q1.t]) (fun u => Tr.d_eq _) (ev_var 1) (ev_var 10)
          (eg_methC 0 (lr := repTr) (m := "tree") (G := fun u o => ∃ l', Kept g l' ∧ u = q2.t ∧ o = cO C a dx da g l') T.o_Counter N (hr.mono (by omega)) hC (by decide) (by decide) (ea_cons (x := q2.n) (ev_fld (x := q) (y := q2.n) (o_cls T q) n2 rfl f2 (ev_var 2)) (ea_cons (x := sh.2.r) (ev_sz0 (q := sh.2) (ev_var 8) ev_int) (ea_cons (x := sh.2.c) (ev_sz1 (q := sh.2) (ev_var 8) ev_int) (ea_cons (x := sh.2.k) (ev_sz2 (q := sh.2) (ev_var 8) ev_int) (ea_cons (x := z2) (ev_eq (ev_bin (o_mod (by omega)) (ev_var 4) (ev_snd (x := z) (ev_var 9))) d2) ea_nil))))) rfl rfl (fun _ _ ⟨l', _, _, e⟩ => by rw [e]; rfl) (fun u o ⟨l', h1, h2, h3⟩ => ⟨u, ⟨l', h1, h2, by rw [h3]; rfl⟩, rfl⟩) fun P' R' h' _ => ⟨C, a, dx, da, g, l3, q2, sh.2, z2, rfl, hC, hg, hl3, s2.symm, g2, by omega, fun l' hl' => h' _ _ ⟨l', hl', rfl, rfl⟩⟩)) fun r Γ' ⟨u, ⟨u1, ⟨l2, h1, h2, h3⟩, h4⟩, e⟩ => ⟨u, cO C a dx da g l2, ⟨l2, h1, by rw [h4, h2], rfl⟩, e, by rw [h3]; rfl⟩) fun u o ⟨l4, h1, h2, h3⟩ => ?_
        rw [h2, h3]
        exact hq l4 h1
      · have hts := take_sum (f := mulS (cntT g.rules) q1.n q2.n) hm
        have hmono := take_mono (f := mulS (cntT g.rules) q1.n q2.n) (l := sharesL sd x.r x.c (x.k - co)) (m := m + 1) (j := j) hnn (by omega)
        have hzz : 0 ≤ z1 * cntT g.rules q2.n sh.2.r sh.2.c sh.2.k := Int.mul_nonneg a1 (by omega)
        have hge : ¬ kk < z.1 * z.2 := by
          rw [hy1]
          unfold shSum at hy hkk
          omega
        refine st_if (k := false) (et_eq (et_cmp o_lt (ev_var 4) (ev_bin (o_mulW hy2) (ev_fst (x := z) (ev_var 9)) (ev_snd (x := z) (ev_var 9)))) (decide_eq_false hge)) (fun h => nomatch h) (fun _ => st_nil ?_)
        refine st_set 4 (x := y - shSum g.rules sd q1.n q2.n x.r x.c (x.k - co) (m + 1)) (ev_eq (ev_bin o_sub (ev_var 4) (ev_bin (o_mulW hy2) (ev_fst (x := z) (ev_var 9)) (ev_snd (x := z) (ev_var 9)))) (by
          rw [hy1, ← hkk]
          unfold shSum
          omega)) (st_nil ?_) sc_Counter_tree_by.nd
        exact ⟨l2, le_cons (le_cons (le_cons (le_cons (le_cons (le_cons (le_no (le_no (le_no (le_no (le_no le_nil)))))))))), hl2, by omega⟩
    · obtain ⟨l1, le, hk1, hmj⟩ := hP
      have := (List.getElem?_eq_some_iff.mp hj).1
      omega
theorem ok_tree (T : Txt K mg) {d lv : Nat} (h52 : 53 ≤ lv) (B : HasM P w K mg base lv "Counter" "tree_by" ["self", "number", "rule", "shape", "k"] (tbS K d)) : HasM P w K mg base (lv + 1) "Counter" "tree" ["self", "name", "rows", "columns", "cost", "k"] (treeNS K (d + 1)) := by
  refine HasM.of T.m_Counter_tree sc_Counter_tree (fun A Q R ⟨C, a, dx, da, g, l, s, x, z, e, _⟩ => by rw [e]; rfl) fun f cdv A outer s0 H E hr Γ Q R ⟨C, a, dx, da, g, l, s, x, z, e, hC, hg, hk, hx, hz, hc16, hq⟩ => ?_
  subst e
  subst hx
  obtain ⟨C', kC, gC⟩ := id T.o_Counter
  obtain rfl := ns_one kC.ns hC
  have ng := T.a_Counter_grammar _ hC
  have hcosts := made_cost hg
  obtain ⟨j, y, hn, hzy, hby⟩ := hz
  obtain ⟨y0, y1⟩ := by_bd hcosts (GNd.bd hcosts d) hby
  have hb := hn.ok.box hcosts hc16
  obtain ⟨x1, x2, x3, x4, x5, x6⟩ := id hb
  obtain ⟨hat, hmem⟩ := rule_at hn.inr
  have hnm : s.n ∈ g.names := by rw [← hn.nm]; exact made_nm hg hmem
  have h24 := hg.ok.many
  refine st_for (fun m Γ' => ∃ l', Le Γ' [.own (cO C a dx da g l'), vl s.n, vl (shpOf s).r, vl (shpOf s).c, vl (shpOf s).k, vl (z - nmSum g.rules s.n (shpOf s) m), .no, .no, .no] ∧ Kept g l' ∧ m ≤ j) (src_list (xs := numbersL s.n g.rules) (ev_of_en (en_of_ex (ex_of_exx (exx_meth (x := g) T.o_Grammar (ok_Grammar_numbers_of T) (hr.mono (by omega)) rfl (lk rfl) (ev_cfld 0 kC.cl ng) (ea_cons (x := s.n) (ev_var 1) ea_nil) fun P' R' h' _ => ⟨g, s.n, rfl, by omega, fun _ => h' _ rfl, fun z => absurd hnm z⟩))))) (tg_name 6) ⟨l, by rw [show z - nmSum g.rules s.n (shpOf s) 0 = z from by unfold nmSum; rw [List.take_zero]; show z - 0 = z; omega]; exact Le.refl, hk, Nat.zero_le _⟩ (fun m i Γ' hm hP => ?_) (fun Γ' hP => ?_) (pgn 6 sc_Counter_tree.nd)
  · obtain ⟨l1, le, hk1, hmj⟩ := hP
    obtain ⟨q, hqa, hqm, hqf⟩ := nums_at hm
    refine st_le (Le.set le 6 _) ?_
    generalize hkk : z - nmSum g.rules s.n (shpOf s) m = kk
    refine st_set 7 (x := q) (ev_of_ex (ex_of_exx (exx_meth (x := g) T.o_Grammar (ok_Grammar_rule T) (hr.mono (by omega)) rfl (lk rfl) (ev_cfld 0 kC.cl ng) (ea_cons (x := i) (ev_var 6) ea_nil) fun P' R' h' _ => ⟨g, i, q, rfl, hqa, h' _ rfl⟩))) ?_ sc_Counter_tree.nd
    refine st_setGE 8 (i := repInt) (G := fun v Γ' => ∃ l', Kept g l' ∧ v = cntR (cntT g.rules) q (shpOf s).r (shpOf s).c (shpOf s).k ∧ Γ' = [.own (cO C a dx da g l'), vl s.n, vl (shpOf s).r, vl (shpOf s).c, vl (shpOf s).k, vl kk, vl i, vl q, .no]) (eg_methC 0 (lr := repInt) (m := "of_rule") (G := fun v o => ∃ l', Kept g l' ∧ v = cntR (cntT g.rules) q (shpOf s).r (shpOf s).c (shpOf s).k ∧ o = cO C a dx da g l') T.o_Counter (of_rule16 T) (hr.mono (by omega)) hC (by decide) (by decide) (ea_cons (x := q) (ev_var 7) (ea_cons (ev_var 2) (ea_cons (ev_var 3) (ea_cons (ev_var 4) ea_nil)))) rfl rfl (fun _ _ ⟨l', _, _, e⟩ => by rw [e]; rfl) (fun v o ⟨l', h1, h2, h3⟩ => ⟨v, ⟨l', h1, h2, by rw [h3]; rfl⟩, rfl⟩) fun P' R' h' _ => ⟨C, a, dx, da, g, l1, q, _, _, _, rfl, hC, hg, hk1, hqm, x1, x2, x3, x4, x5, by omega, by omega, fun l' hl' => h' _ _ ⟨l', hl', rfl, rfl⟩⟩) (fun v Γ' hv => ?_) sc_Counter_tree.nd
    obtain ⟨l2, hl2, rfl, rfl⟩ := hv
    by_cases hj : m = j
    · subst hj
      have hi : i = s.t.num := by rw [hn.at_] at hm; exact (Option.some.inj hm).symm
      subst hi
      have hqe : q = ruleAt g.rules s.t.num := by rw [hat] at hqa; exact (Option.some.inj hqa).symm
      subst hqe
      have hkv : kk = y := by omega
      subst hkv
      refine st_if (k := true) (et_eq (et_cmp o_lt (ev_var 5) (ev_var 8)) (decide_eq_true y1)) (fun _ => ?_) (fun h => nomatch h)
      refine st_retGC 0 (l' := repTr) (G := fun u o => ∃ l3, Kept g l3 ∧ u = s.t ∧ o = cO C a dx da g l3) (eg_methC 0 (lr := repTr) (m := "tree_by") (G := fun u o => ∃ l3, Kept g l3 ∧ u = s.t ∧ o = cO C a dx da g l3) T.o_Counter B (hr.mono (by omega)) hC (by decide) (by decide) (ea_cons (x := s.t.num) (ev_var 6) (ea_cons (x := ruleAt g.rules s.t.num) (ev_var 7) (ea_cons (x := shpOf s) (ev_sz3 (ev_tupH (es_cons (ev_d (α := Int) (ev_var 2)) (es_cons (ev_d (α := Int) (ev_var 3)) (es_cons (ev_d (α := Int) (ev_var 4)) es_nil))))) (ea_cons (x := kk) (ev_var 5) ea_nil)))) rfl rfl (fun _ _ ⟨l', _, _, e⟩ => by rw [e]; rfl) (fun u o ⟨l', h1, h2, h3⟩ => ⟨u, o, ⟨l', h1, h2, h3⟩, rfl, rfl⟩) fun P' R' h' _ => ⟨C, a, dx, da, g, l2, ruleAt g.rules s.t.num, shpOf s, s.t, kk, rfl, hC, hg, hl2, hmem, hb, hby, fun l' hl' => h' _ _ ⟨l', hl', rfl, rfl⟩⟩) fun u o ⟨l3, h1, h2, h3⟩ => ?_
      rw [h2, h3]
      exact hq l3 h1
    · have hts := take_sum (f := fun q => cntR (cntT g.rules) q (shpOf s).r (shpOf s).c (shpOf s).k) hqf
      have hmono := take_mono (f := fun q => cntR (cntT g.rules) q (shpOf s).r (shpOf s).c (shpOf s).k) (l := g.rules.filter fun q => decide (q.name = s.n)) (m := m + 1) (j := j) (fun q => cntQ_nn ..) (by omega)
      have hge : ¬ kk < cntR (cntT g.rules) q (shpOf s).r (shpOf s).c (shpOf s).k := by
        unfold nmSum at hzy hkk
        omega
      refine st_if (k := false) (et_eq (et_cmp o_lt (ev_var 5) (ev_var 8)) (decide_eq_false hge)) (fun h => nomatch h) (fun _ => st_nil ?_)
      refine st_set 5 (x := z - nmSum g.rules s.n (shpOf s) (m + 1)) (ev_eq (ev_bin o_sub (ev_var 5) (ev_var 8)) (by
        rw [← hkk]
        unfold nmSum
        omega)) (st_nil ?_) sc_Counter_tree.nd
      exact ⟨l2, le_cons (le_cons (le_cons (le_cons (le_cons (le_cons (le_no (le_no (le_no le_nil)))))))), hl2, by omega⟩
  · obtain ⟨l1, le, hk1, hmj⟩ := hP
    have := (List.getElem?_eq_some_iff.mp hn.at_).1
    omega
end
noncomputable def noS : Tw.Spec := fun A P _ => ∃ (g : GramD) (s : Stk4) (z : Int), A = [vl g, vl s.t] ∧ g.Made ∧ GNd g.rules 16 s z ∧ s.c ≤ 16 ∧ P (rv z)
theorem GNd.nm {g : GramD} (hg : g.Made) {d : Nat} {s : Stk4} {z : Int} (h : GNd g.rules d s z) : s.n ∈ g.names := by
  cases d with
  | zero => exact h.elim
  | succ d =>
    obtain ⟨j, y, hn, _⟩ := h
    rw [← hn.nm]
    exact made_nm hg (rule_at hn.inr).2
section
variable {P : Program} {w : World} {K : PySem.W.Frag} {mg : Str → Option Value} {base : Heap}
theorem all_number (T : Txt K mg) : ∀ d : Nat, HasM P w K mg base (90 + 2 * d) "Counter" "number" ["self", "tree"] (numNS K d)
  | 0 => HasM.of (k := 89) T.m_Counter_number sc_Counter_number (fun A Q R ⟨C, a, dx, da, g, l, s, z, e, _⟩ => by rw [e]; rfl) fun f cdv A outer s0 H E hr Γ Q R ⟨C, a, dx, da, g, l, s, z, e, hC, hg, hk, hz, _⟩ => hz.elim
  | d + 1 => ok_number T (lv := 90 + 2 * d + 1) (by omega) (ok_number_by T (by omega) (all_number T d))
theorem all_tree (T : Txt K mg) : ∀ d : Nat, HasM P w K mg base (53 + 2 * d) "Counter" "tree" ["self", "name", "rows", "columns", "cost", "k"] (treeNS K d)
  | 0 => HasM.of (k := 52) T.m_Counter_tree sc_Counter_tree (fun A Q R ⟨C, a, dx, da, g, l, s, x, z, e, _⟩ => by rw [e]; rfl) fun f cdv A outer s0 H E hr Γ Q R ⟨C, a, dx, da, g, l, s, x, z, e, hC, hg, hk, hx, hz, _⟩ => hz.elim
  | d + 1 => ok_tree T (lv := 53 + 2 * d + 1) (by omega) (ok_tree_by T (by omega) (all_tree T d))
theorem ok_number_of (T : Txt K mg) : Has P w K mg base 123 "number_of" ["grammar", "tree"] noS := by
  refine Has.of (k := 122) T.f_number_of sc_number_of (fun A Q R ⟨g, s, z, e, _⟩ => by rw [e]; rfl) fun f cdv A outer s0 H E hr Γ Q R ⟨g, s, z, e, hg, hz, h16, hq⟩ => ?_
  subst e
  have hcosts := made_cost hg
  obtain ⟨z1, z2, z3⟩ := hz.ok.sizes hcosts
  refine st_set 2 (x := (none : Option Flt)) (ev_call (ok_tree_fault T) (hr.mono (by decide)) (ea_cons (x := g) (ev_var 0) (ea_cons (x := s.t) (ev_var 1) ea_nil)) fun P' R' h => ⟨g, s.t, rfl, by omega, hg.rs, by rw [hz.ok.nofault.1]; exact h⟩) ?_ sc_number_of.nd
  refine st_if (k := false) (et_cmp (o_notO (α := Flt) (x := none)) (ev_var 2) ev_non) (fun h => nomatch h) (fun _ => st_nil ?_)
  exact st_retV (ev_makeMeth (i := repInst) (j := repInt) (f1 := "grammar") (f2 := "kept") (x := g) (y := z) (lr := repInt) (κ := Key4) T.o_Counter (ok_Counter_init T) (all_number T 16) (hr.mono (by omega)) (hr.mono (by omega)) (by decide) (by decide) (by decide) (ea_cons (x := g) (ev_var 0) ea_nil) rfl (ea_cons (x := s.t) (ev_var 1) ea_nil) rfl (fun C hC ad dx P' R' h => ⟨C, ad, dx, g, rfl, hC, h⟩) (fun C ad dx da P' R' hC h => ⟨C, ad, dx, da, g, [], s, z, rfl, hC, hg, Kept.nil, hz, h16, fun l' _ => h _⟩)) hq
end
theorem find_sum {A : Type} {f : A → Int} (hf : ∀ x, 0 ≤ f x) : ∀ (l : List A) (z : Int), 0 ≤ z → z < (l.map f).sum → ∃ (j : Nat) (x : A), l[j]? = some x ∧ ((l.take j).map f).sum ≤ z ∧ z < ((l.take j).map f).sum + f x
  | [], z, h0, h => by simp at h; omega
  | a :: l, z, h0, h => by
    rw [List.map_cons, List.sum_cons] at h
    by_cases hz : z < f a
    · exact ⟨0, a, rfl, by simpa using h0, by simpa using hz⟩
    · obtain ⟨j, x, h1, h2, h3⟩ := find_sum hf l (z - f a) (by omega) (by omega)
      refine ⟨j + 1, x, by simpa using h1, ?_, ?_⟩ <;> rw [List.take_succ_cons, List.map_cons, List.sum_cons] <;> omega
theorem nums_nodup {rs : List RuleD} {n : Tx} : (numbersL n rs).Nodup := by
  unfold numbersL
  have h : ((enumL rs).map (·.1)).Nodup := by
    have e : (enumL rs).map (·.1) = (List.range rs.length).map fun k => ((k : Nat) : Int) := by
      unfold enumL
      rw [List.map_map]
      refine List.ext_getElem? fun k => ?_
      rw [List.getElem?_map, List.getElem?_map, List.getElem?_zipIdx]
      by_cases hk : k < rs.length
      · rw [List.getElem?_eq_getElem hk, List.getElem?_range hk]; simp
      · rw [List.getElem?_eq_none (by omega), List.getElem?_eq_none (by rw [List.length_range]; omega)]; rfl
    rw [e]
    exact List.Pairwise.map _ (fun a b h => by intro z; exact h (by omega)) List.nodup_range
  exact List.Pairwise.sublist (List.Sublist.map _ List.filter_sublist) h
theorem nodup_first {A : Type} {l : List A} {j : Nat} {x : A} (h : l.Nodup) (hj : l[j]? = some x) : ∀ m < j, l[m]? ≠ some x := fun m hm hz => by
  obtain ⟨h1, e1⟩ := List.getElem?_eq_some_iff.mp hj
  obtain ⟨h2, e2⟩ := List.getElem?_eq_some_iff.mp hz
  have := List.pairwise_iff_getElem.mp h m j h2 h1 hm
  exact this (e2.trans e1.symm)
theorem shares_pairwise {s : Bool} {r c left : Int} {j m : Nat} {x u : Sz3 × Sz3} (hj : (sharesL s r c left)[j]? = some x) (hm : m < j) (hu : (sharesL s r c left)[m]? = some u) : u.1 ≠ x.1 := by
  have hnd : ((sharesL s r c left).map fun x => (x.1.r, x.1.c, x.1.k)).Nodup := by
    unfold sharesL
    rw [List.map_flatMap]
    have hp : ∀ n, (rng 1 n).Nodup := fun n => by
      unfold rng
      exact List.Pairwise.map _ (fun a b h => by intro z; exact h (by omega)) List.nodup_range
    have hfl : ∀ {A B : Type} {f : A → List B} {l : List A}, l.Nodup → (∀ a ∈ l, (f a).Nodup) → (∀ a ∈ l, ∀ b ∈ l, a ≠ b → ∀ x ∈ f a, x ∉ f b) → (l.flatMap f).Nodup := fun {A B f l} h1 h2 h3 => by
      induction l with
      | nil => simp
      | cons a l ih =>
        rw [List.flatMap_cons, List.nodup_append]
        rw [List.nodup_cons] at h1
        refine ⟨h2 a (List.mem_cons_self ..), ih h1.2 (fun b hb => h2 b (List.mem_cons_of_mem _ hb)) (fun b hb d hd => h3 b (List.mem_cons_of_mem _ hb) d (List.mem_cons_of_mem _ hd)), fun x hx y hy e => ?_⟩
        obtain ⟨b, hb, hyb⟩ := List.mem_flatMap.mp hy
        subst e
        exact h3 a (List.mem_cons_self ..) b (List.mem_cons_of_mem _ hb) (fun e => h1.1 (e ▸ hb)) x hx hyb
    refine hfl (hp _) (fun a _ => ?_) (fun a _ b _ hab x hx hy => ?_)
    · rw [List.map_map]
      refine List.Pairwise.map _ (fun k k' h => ?_) (hp _)
      cases s <;> simp [h]
    · obtain ⟨x1, hx1, rfl⟩ := List.mem_map.mp hx
      obtain ⟨k, _, rfl⟩ := List.mem_map.mp hx1
      obtain ⟨y1, hy1, e⟩ := List.mem_map.mp hy
      obtain ⟨k', _, rfl⟩ := List.mem_map.mp hy1
      cases s <;> simp at e <;> omega
  intro e
  have := nodup_first hnd (j := j) (x := (x.1.r, x.1.c, x.1.k)) (by rw [List.getElem?_map, hj]; rfl) m hm
  exact this (by rw [List.getElem?_map, hu, ← e]; rfl)
theorem node_made {rs : List RuleD} (hg : ∀ q ∈ rs, q.good = true) {i : Int} {q : RuleD} {parts : List Stk4} {p : Pic} (h : InR rs i) (hr : ruleAt rs i = q) (hb : ∀ s ∈ parts, NodeOk rs s) (hp : q.parts = parts.map Stk4.n) (hm : q.made (parts.map Stk4.p) = some p) : NodeOk rs ⟨.node i (parts.map Stk4.t), q.name, p, q.cost + (parts.map Stk4.c).sum⟩ := by
  obtain ⟨f1, f2, f3, f4⟩ := full_maps parts
  have hbf : ∀ s ∈ parts.map Stk4.full, StkGood rs s := fun s hs => by
    obtain ⟨x, hx, rfl⟩ := List.mem_map.mp hs
    exact (hb x hx).gd
  have hsz := below_sizes hbf
  have hqg : q.good = true := by rw [← hr]; exact hg _ (rule_at h).2
  have hl : (parts.map Stk4.p).length = q.parts.length := by rw [hp, List.length_map, List.length_map]
  have g := stk_node (rs := rs) (n := i) (below := parts.map Stk4.full) (p := p) (c := q.cost + (parts.map Stk4.c).sum) (m := ((Tr.node i (parts.map Stk4.t)).size : Int)) (d := ((Tr.node i (parts.map Stk4.t)).dep : Int)) (r := q) h hr hbf (by rw [f2]; exact hp) (by rw [f3]; exact hm) (by rw [f4]) (by
    rw [Tr.size]
    rw [f1] at hsz
    omega) (by rw [Tr.dep, f1]; omega)
  rw [f1] at g
  exact ⟨g, made_pic hqg hl (fun r hr => by obtain ⟨s, hs, rfl⟩ := List.mem_map.mp hr; exact (hb s hs).pin) hm⟩
theorem nums_rule {rs : List RuleD} {n : Tx} {j : Nat} {q : RuleD} (h : (rs.filter fun q => decide (q.name = n))[j]? = some q) : ∃ i, (numbersL n rs)[j]? = some i ∧ InR rs i ∧ ruleAt rs i = q := by
  rw [← nums_rules, List.getElem?_map] at h
  obtain ⟨x, hx, rfl⟩ := Option.map_eq_some_iff.mp h
  refine ⟨x.1, by unfold numbersL; rw [List.getElem?_map, hx]; rfl, ?_⟩
  have hm := (List.mem_filter.mp (List.mem_of_getElem? hx)).1
  obtain ⟨k, hk, e⟩ := List.getElem_of_mem hm
  obtain ⟨h1, h2⟩ := enumL_get (xs := rs) (k := k) (by rw [List.getElem?_eq_getElem hk, e])
  have hlt := (List.getElem?_eq_some_iff.mp h2).1
  refine ⟨?_, ?_⟩
  · unfold InR
    rw [h1, Bool.or_eq_false_iff]
    exact ⟨decide_eq_false (by omega), decide_eq_false (by omega)⟩
  · unfold ruleAt
    rw [h1, List.getD_eq_getElem?_getD, Int.toNat_natCast, h2]; rfl
theorem shpOf_eq {s : Stk4} {r c k : Int} {R C : Nat} (h : Pk s.p R C) (h1 : (R : Int) = r) (h2 : (C : Int) = c) (h3 : s.c = k) : shpOf s = ⟨r, c, k⟩ := by
  rw [shp_pk h, h1, h2, h3]
theorem num_onto {rs : List RuleD} (hg : ∀ q ∈ rs, q.good = true) : ∀ (d : Nat) (n : Tx) (r c k z : Int), k ≤ (d : Int) → 1 ≤ r → r ≤ 6 → 1 ≤ c → c ≤ 6 → 0 ≤ z → z < cntT rs n r c k → ∃ s, GNd rs d s z ∧ s.n = n ∧ shpOf s = ⟨r, c, k⟩
  | 0, n, r, c, k, z, hk, _, _, _, _, h0, hz => by
    rw [cntT_zero (fun q hq => (RuleD.bounds (hg q hq)).2.1) (by omega)] at hz
    omega
  | d + 1, n, r, c, k, z, hk, hr1, hr6, hc1, hc6, h0, hz => by
    have hc : ∀ q ∈ rs, 1 ≤ q.cost := fun q hq => (RuleD.bounds (hg q hq)).2.1
    rw [cntT_eq hc] at hz
    obtain ⟨j, q, hj, hlo, hhi⟩ := find_sum (f := fun q => cntR (cntT rs) q r c k) (fun q => cntQ_nn ..) _ z h0 hz
    obtain ⟨i, hi, hin, hra⟩ := nums_rule hj
    have hqm := (List.mem_filter.mp (List.mem_of_getElem? hj))
    have hqn : q.name = n := of_decide_eq_true hqm.2
    have hcost := hc q hqm.1
    have hft := nodup_first (nums_nodup (rs := rs) (n := n)) hi
    generalize hy : z - (((rs.filter fun q => decide (q.name = n)).take j).map fun q => cntR (cntT rs) q r c k).sum = y at *
    have y0 : 0 ≤ y := by omega
    have y1 : y < cntR (cntT rs) q r c k := by omega
    have fin : ∀ s : Stk4, NodeOk rs s → s.t.num = i → s.n = n → shpOf s = ⟨r, c, k⟩ → GBy (GNd rs d) rs q s.t.subs ⟨r, c, k⟩ y → ∃ s, GNd rs (d + 1) s z ∧ s.n = n ∧ shpOf s = ⟨r, c, k⟩ := fun s ok hnum hn hsh hby => by
      refine ⟨s, ⟨j, y, ⟨ok, by rw [hnum]; exact hin, by rw [hnum, hra, hn]; exact hqn, by rw [hnum, hn]; exact hi, by rw [hnum, hn]; exact hft⟩, ?_, ?_⟩, hn, hsh⟩
      · unfold nmSum
        rw [hn, hsh]
        show z = (((rs.filter fun q => decide (q.name = n)).take j).map fun q => cntR (cntT rs) q r c k).sum + y
        omega
      · rw [hnum, hra, hsh]; exact hby
    cases q with
    | cell n' co sg =>
      obtain rfl : n' = n := hqn
      simp only [cntR] at y1
      split at y1
      · rename_i hcd
        obtain ⟨k1, rfl, rfl⟩ := hcd
        obtain rfl : y = 0 := by omega
        have ok := node_made hg (parts := []) (p := [sg]) hin hra (fun s hs => (List.not_mem_nil hs).elim) rfl rfl
        have hs1 : sg.length = 1 := by
          have hgr := hg _ (rule_at hin).2
          rw [hra] at hgr
          simp only [RuleD.good, Bool.and_eq_true] at hgr
          have h1 := hgr.1
          unfold signOk at h1
          simp only [Bool.and_eq_true, decide_eq_true_eq] at h1
          exact h1.1
        have ek : k = co := by omega
        refine fin _ ok rfl rfl ?_ ⟨rfl, by rw [ek], rfl⟩
        show (⟨((1 : Nat) : Int), (sg.length : Int), co + 0⟩ : Sz3) = _
        rw [hs1, ek, Int.add_zero]; rfl
      · omega
    | turn n' co a tn =>
      obtain rfl : n' = n := hqn
      have hcost : 1 ≤ co := hcost
      have htn : 0 ≤ tn := by
        have := turnOk_good (hg _ (rule_at hin).2)
        rw [hra] at this
        exact this
      simp only [cntR] at y1
      split at y1
      · omega
      · have key : ∀ r' c' : Int, 1 ≤ r' → r' ≤ 6 → 1 ≤ c' → c' ≤ 6 → (⟨r', c', k - co⟩ : Sz3) = (if tn % 2 = 1 then ⟨c, r, k - co⟩ else ⟨r, c, k - co⟩) → (if tn % 2 = 1 then r = c' ∧ c = r' else r = r' ∧ c = c') → y < cntT rs a r' c' (k - co) → ∃ s, GNd rs (d + 1) s z ∧ s.n = n' ∧ shpOf s = ⟨r, c, k⟩ := fun r' c' a1 a2 a3 a4 he hrc hlt => by
          obtain ⟨s0, g0, e1, e2⟩ := num_onto hg d a r' c' (k - co) y (by omega) a1 a2 a3 a4 y0 hlt
          obtain ⟨R, C, hp⟩ := g0.ok.pin
          have ok := node_made hg (parts := [s0]) (p := turned s0.p tn.toNat) hin hra (fun s hs => by rw [List.mem_singleton.mp hs]; exact g0.ok) (by rw [← e1]; rfl) rfl
          have hsp := shp_pk hp
          rw [e2] at hsp
          have p1 : r' = (R : Int) := congrArg Sz3.r hsp
          have p2 : c' = (C : Int) := congrArg Sz3.c hsp
          have p3 : k - co = s0.c := congrArg Sz3.k hsp
          refine fin _ ok rfl rfl (shpOf_eq (hp.turned tn.toNat) ?_ ?_ ?_) ⟨s0, rfl, e1, g0, by rw [e2]; exact he⟩
          · by_cases ho : tn % 2 = 1
            · rw [if_pos ho] at hrc; rw [if_neg (by omega)]; omega
            · rw [if_neg ho] at hrc; rw [if_pos (by omega)]; omega
          · by_cases ho : tn % 2 = 1
            · rw [if_pos ho] at hrc; rw [if_neg (by omega)]; omega
            · rw [if_neg ho] at hrc; rw [if_pos (by omega)]; omega
          · show co + (s0.c + 0) = k
            omega
        by_cases ho : tn % 2 = 1
        · rw [if_pos ho] at y1
          exact key c r hc1 hc6 hr1 hr6 (by rw [if_pos ho]) (by rw [if_pos ho]; exact ⟨rfl, rfl⟩) y1
        · rw [if_neg ho] at y1
          exact key r c hr1 hr6 hc1 hc6 (by rw [if_neg ho]) (by rw [if_neg ho]; exact ⟨rfl, rfl⟩) y1
    | beside n' co a b =>
      obtain rfl : n' = n := hqn
      have hcost : 1 ≤ co := hcost
      simp only [cntR] at y1
      split at y1
      · omega
      · obtain ⟨m, x, hm, m1, m2⟩ := find_sum (f := mulS (cntT rs) a b) (fun x => Int.mul_nonneg (cntT_nn ..) (cntT_nn ..)) _ y y0 y1
        have hxin := shares_in (List.mem_of_getElem? hm)
        obtain ⟨i1, i2, i3, i4⟩ := hxin.pos hr1 hc1
        have hxm := List.mem_of_getElem? hm
        have j1 := hxin.r1
        have j2 := hxin.c1
        have j3 := hxin.r2
        have j4 := hxin.c2
        have j5 := hxin.k1
        have j6 := hxin.k2
        have j7 := hxin.ks
        have hgeo : x.1.r = r ∧ x.2.r = r ∧ x.1.c + x.2.c = c := by
          unfold sharesL at hxm
          obtain ⟨u, _, hx⟩ := List.mem_flatMap.mp hxm
          obtain ⟨v, _, rfl⟩ := List.mem_map.mp hx
          simp only [if_true]
          refine ⟨trivial, trivial, ?_⟩
          omega
        generalize hv : y - (((sharesL true r c (k - co)).take m).map (mulS (cntT rs) a b)).sum = v at *
        have hmul : mulS (cntT rs) a b x = cntT rs a x.1.r x.1.c x.1.k * cntT rs b x.2.r x.2.c x.2.k := rfl
        have v0 : 0 ≤ v := by omega
        have v1 : v < cntT rs a x.1.r x.1.c x.1.k * cntT rs b x.2.r x.2.c x.2.k := by omega
        have ca := cntT_nn rs a x.1.r x.1.c x.1.k
        have cb := cntT_nn rs b x.2.r x.2.c x.2.k
        have cb0 : 0 < cntT rs b x.2.r x.2.c x.2.k := by
          rcases (by omega : cntT rs b x.2.r x.2.c x.2.k = 0 ∨ 0 < cntT rs b x.2.r x.2.c x.2.k) with h | h
          · rw [h, Int.mul_zero] at v1; omega
          · exact h
        obtain ⟨s1, g1, e1, f1⟩ := num_onto hg d a x.1.r x.1.c x.1.k (v / cntT rs b x.2.r x.2.c x.2.k) (by omega) i1 (by omega) i2 (by omega) (Int.ediv_nonneg v0 cb) (Int.ediv_lt_of_lt_mul cb0 v1)
        obtain ⟨s2, g2, e2, f2⟩ := num_onto hg d b x.2.r x.2.c x.2.k (v % cntT rs b x.2.r x.2.c x.2.k) (by omega) i3 (by omega) i4 (by omega) (Int.emod_nonneg _ (by omega)) (Int.emod_lt_of_pos _ cb0)
        obtain ⟨R1, C1, p1⟩ := g1.ok.pin
        obtain ⟨R2, C2, p2⟩ := g2.ok.pin
        have q1 := shp_pk p1
        have q2 := shp_pk p2
        rw [f1] at q1
        rw [f2] at q2
        have a1 : x.1.r = (R1 : Int) := congrArg Sz3.r q1
        have a2 : x.1.c = (C1 : Int) := congrArg Sz3.c q1
        have a3 : x.1.k = s1.c := congrArg Sz3.k q1
        have b1 : x.2.r = (R2 : Int) := congrArg Sz3.r q2
        have b2 : x.2.c = (C2 : Int) := congrArg Sz3.c q2
        have b3 : x.2.k = s2.c := congrArg Sz3.k q2
        have hf : fits true R1 C1 R2 C2 = true := by
          unfold fits
          rw [if_pos rfl, decide_eq_true (by omega), decide_eq_true (by omega)]; rfl
        have hfp : fitsP true s1.p s2.p = true := (PicIn.fits p1 p2).trans hf
        have ok := node_made hg (parts := [s1, s2]) (p := putT true s1.p s2.p) hin hra (fun s hs => by
          simp only [List.mem_cons, List.not_mem_nil, or_false] at hs
          rcases hs with rfl | rfl
          · exact g1.ok
          · exact g2.ok) (by rw [← e1, ← e2]; rfl) (by show (if fitsP true s1.p s2.p = true then _ else _) = _; rw [if_pos hfp]; rfl)
        have pp := Pk.put2 p1 p2 hf
        refine fin _ ok rfl rfl (shpOf_eq pp ?_ ?_ ?_) ⟨s1, s2, x, _, _, m, rfl, e1, e2, g1, g2, f1, f2, hm, fun m' hm' u hu => shares_pairwise hm hm' hu, ?_⟩
        · simp only [if_true]; omega
        · simp only [if_true]; omega
        · show co + (s1.c + (s2.c + 0)) = k
          omega
        · have := Int.mul_ediv_add_emod v (cntT rs b x.2.r x.2.c x.2.k)
          rw [Int.mul_comm] at this
          unfold shSum
          show y = (((sharesL true r c (k - co)).take m).map (mulS (cntT rs) a b)).sum + _
          omega
    | above n' co a b =>
      obtain rfl : n' = n := hqn
      have hcost : 1 ≤ co := hcost
      simp only [cntR] at y1
      split at y1
      · omega
      · obtain ⟨m, x, hm, m1, m2⟩ := find_sum (f := mulS (cntT rs) a b) (fun x => Int.mul_nonneg (cntT_nn ..) (cntT_nn ..)) _ y y0 y1
        have hxin := shares_in (List.mem_of_getElem? hm)
        obtain ⟨i1, i2, i3, i4⟩ := hxin.pos hr1 hc1
        have hxm := List.mem_of_getElem? hm
        have j1 := hxin.r1
        have j2 := hxin.c1
        have j3 := hxin.r2
        have j4 := hxin.c2
        have j5 := hxin.k1
        have j6 := hxin.k2
        have j7 := hxin.ks
        have hgeo : x.1.c = c ∧ x.2.c = c ∧ x.1.r + x.2.r = r := by
          unfold sharesL at hxm
          obtain ⟨u, _, hx⟩ := List.mem_flatMap.mp hxm
          obtain ⟨v, _, rfl⟩ := List.mem_map.mp hx
          simp only [Bool.false_eq_true, if_false]
          refine ⟨trivial, trivial, ?_⟩
          omega
        generalize hv : y - (((sharesL false r c (k - co)).take m).map (mulS (cntT rs) a b)).sum = v at *
        have hmul : mulS (cntT rs) a b x = cntT rs a x.1.r x.1.c x.1.k * cntT rs b x.2.r x.2.c x.2.k := rfl
        have v0 : 0 ≤ v := by omega
        have v1 : v < cntT rs a x.1.r x.1.c x.1.k * cntT rs b x.2.r x.2.c x.2.k := by omega
        have ca := cntT_nn rs a x.1.r x.1.c x.1.k
        have cb := cntT_nn rs b x.2.r x.2.c x.2.k
        have cb0 : 0 < cntT rs b x.2.r x.2.c x.2.k := by
          rcases (by omega : cntT rs b x.2.r x.2.c x.2.k = 0 ∨ 0 < cntT rs b x.2.r x.2.c x.2.k) with h | h
          · rw [h, Int.mul_zero] at v1; omega
          · exact h
        obtain ⟨s1, g1, e1, f1⟩ := num_onto hg d a x.1.r x.1.c x.1.k (v / cntT rs b x.2.r x.2.c x.2.k) (by omega) i1 (by omega) i2 (by omega) (Int.ediv_nonneg v0 cb) (Int.ediv_lt_of_lt_mul cb0 v1)
        obtain ⟨s2, g2, e2, f2⟩ := num_onto hg d b x.2.r x.2.c x.2.k (v % cntT rs b x.2.r x.2.c x.2.k) (by omega) i3 (by omega) i4 (by omega) (Int.emod_nonneg _ (by omega)) (Int.emod_lt_of_pos _ cb0)
        obtain ⟨R1, C1, p1⟩ := g1.ok.pin
        obtain ⟨R2, C2, p2⟩ := g2.ok.pin
        have q1 := shp_pk p1
        have q2 := shp_pk p2
        rw [f1] at q1
        rw [f2] at q2
        have a1 : x.1.r = (R1 : Int) := congrArg Sz3.r q1
        have a2 : x.1.c = (C1 : Int) := congrArg Sz3.c q1
        have a3 : x.1.k = s1.c := congrArg Sz3.k q1
        have b1 : x.2.r = (R2 : Int) := congrArg Sz3.r q2
        have b2 : x.2.c = (C2 : Int) := congrArg Sz3.c q2
        have b3 : x.2.k = s2.c := congrArg Sz3.k q2
        have hf : fits false R1 C1 R2 C2 = true := by
          unfold fits
          rw [if_neg (by decide), decide_eq_true (by omega), decide_eq_true (by omega)]; rfl
        have hfp : fitsP false s1.p s2.p = true := (PicIn.fits p1 p2).trans hf
        have ok := node_made hg (parts := [s1, s2]) (p := putT false s1.p s2.p) hin hra (fun s hs => by
          simp only [List.mem_cons, List.not_mem_nil, or_false] at hs
          rcases hs with rfl | rfl
          · exact g1.ok
          · exact g2.ok) (by rw [← e1, ← e2]; rfl) (by show (if fitsP false s1.p s2.p = true then _ else _) = _; rw [if_pos hfp]; rfl)
        have pp := Pk.put2 p1 p2 hf
        refine fin _ ok rfl rfl (shpOf_eq pp ?_ ?_ ?_) ⟨s1, s2, x, _, _, m, rfl, e1, e2, g1, g2, f1, f2, hm, fun m' hm' u hu => shares_pairwise hm hm' hu, ?_⟩
        · simp only [Bool.false_eq_true, if_false]; omega
        · simp only [Bool.false_eq_true, if_false]; omega
        · show co + (s1.c + (s2.c + 0)) = k
          omega
        · have := Int.mul_ediv_add_emod v (cntT rs b x.2.r x.2.c x.2.k)
          rw [Int.mul_comm] at this
          unfold shSum
          show y = (((sharesL false r c (k - co)).take m).map (mulS (cntT rs) a b)).sum + _
          omega
noncomputable def TS (G : Tx → Sz3 → List Tr) (i : Int) (s : Bool) (a b : Tx) (r c left : Int) : List Tr := (sharesL s r c left).flatMap fun p => (G a p.1).flatMap fun t1 => (G b p.2).map fun t2 => .node i [t1, t2]
noncomputable def TR (G : Tx → Sz3 → List Tr) (i : Int) (q : RuleD) (x : Sz3) : List Tr := match q with
  | .cell _ co _ => if x.k - co = 0 ∧ x.r = 1 ∧ x.c = 1 then [.node i []] else []
  | .turn _ co a tn => if x.k - co < 1 then [] else (G a (if tn % 2 = 1 then ⟨x.c, x.r, x.k - co⟩ else ⟨x.r, x.c, x.k - co⟩)).map fun t => .node i [t]
  | .beside _ co a b => if x.k - co < 1 then [] else TS G i true a b x.r x.c (x.k - co)
  | .above _ co a b => if x.k - co < 1 then [] else TS G i false a b x.r x.c (x.k - co)
noncomputable def TL (rs : List RuleD) : Nat → Tx → Sz3 → List Tr
  | 0, _, _ => []
  | d + 1, n, x => (numbersL n rs).flatMap fun i => TR (TL rs d) i (ruleAt rs i) x
noncomputable def TooManyX : Exn := ⟨"TooMany", "", .no⟩
noncomputable def toS : Tw.Spec := fun A P R => ∃ (g : GramD) (n : Tx) (r c k : Int), A = [vl g, vl n, vl r, vl c, vl k] ∧ g.Made ∧ n ∈ g.names ∧ BoxS ⟨r, c, k⟩ ∧ (cntT g.rules n r c k ≤ 300 → P (rv (TL g.rules 16 n ⟨r, c, k⟩))) ∧ (300 < cntT g.rules n r c k → R TooManyX)
section
variable {X : Cx} {Γ : List Slot} {α β γ : Type} {i : Rep α} {j : Rep β} {pos : Pos} {a b : Expr} {es : List Expr}
theorem ex_tup2E {ζ : Type} [t : HetT ζ] {kk : Nat} {G1 : α → Prop} {G2 : β → Prop} {G : ζ → Prop} {A : List Slot} (ha : EX X Γ a (fun r => ∃ x, G1 x ∧ r = .val i x)) (hb : EX X Γ b (fun r => ∃ y, G2 y ∧ r = .val j y)) (hc : EA X Γ es A) (hx : ∀ x y, G1 x → G2 y → ∃ z : ζ, G z ∧ t.els z = .val i x :: .val j y :: A) (hz : autoParam (A.length ≤ 900) Tw.aNle)
    (hs : autoParam (starEach (a :: b :: es) X.env = (false, eval a X.env) :: starEach (b :: es) X.env) aStar) (hs2 : autoParam (starEach (b :: es) X.env = (false, eval b X.env) :: starEach es X.env) aStar) : EX X Γ (.Tuple (a :: b :: es) kk pos) (fun r => ∃ z, G z ∧ r = .val repHetT z) := fun B F H σ Q L q =>
  WE.of (pe_tup (pa_cons peW (pa_cons peW paW hs2) hs)) (ha B F H σ _ L fun r v F1 H1 ⟨x, gx, er⟩ e1 r1 => by
    subst er
    refine hb B F1 H1 σ _ (L.step e1) fun r2 u F2 H2 ⟨y, gy, er2⟩ e2 r2' => ?_
    subst er2
    exact hc B F2 H2 σ _ ((L.step e1).step e2) fun vs F3 H3 e3 r3 => ⟨by rw [List.length_cons, List.length_cons, r3.len]; exact sl_small (by omega), fun p hp => by
      have s1 := (((L.step e1).step e2).step e3).same
      have ea := Ext.new (o := .tup (v :: u :: vs)) s1 hp
      obtain ⟨z, gz, hzz⟩ := hx x y gx gy
      exact q (.val repHetT z) (.ref p) _ _ ⟨z, gz, rfl⟩ (e1.trans (e2.trans (e3.trans ea))) ⟨p, _, rfl, upd_same, by rw [hzz]; exact ⟨i.mono (e2.ff.trans (e3.ff.trans ea.ff)) r1, j.mono (e3.ff.trans ea.ff) r2', (r3.het).mono ea.ff⟩⟩⟩)
end
noncomputable def NoNumX : Exn := ⟨"NoNumber", "", .no⟩
noncomputable def ofNameXS (K : PySem.W.Frag) : Tw.Spec := fun A _ R => ∃ (C a dx da : Addr) (g : GramD) (n : Tx) (r c k : Int), A = [.own (cO C a dx da g []), vl n, vl r, vl c, vl k] ∧ PySem.W.nsIn K mainGlobals "Counter" = some (some (.ref C)) ∧ g.Made ∧ n ∉ g.names ∧ R NoNameX
noncomputable def treeXS (K : PySem.W.Frag) : Tw.Spec := fun A _ R => ∃ (C a dx da : Addr) (g : GramD) (l : List (Key4 × Int)) (n : Tx) (x : Sz3) (z : Int), A = [.own (cO C a dx da g l), vl n, vl x.r, vl x.c, vl x.k, vl z] ∧ PySem.W.nsIn K mainGlobals "Counter" = some (some (.ref C)) ∧ g.Made ∧ Kept g l ∧ n ∈ g.names ∧ BoxS x ∧ cntT g.rules n x.r x.c x.k ≤ z ∧ R NoNumX
noncomputable def ta35S : Tw.Spec := fun A P R => ∃ (g : GramD) (n : Tx) (x : Sz3) (z : Int), A = [vl g, vl n, vl x.r, vl x.c, vl x.k, vl z] ∧ g.Made ∧ BoxS x ∧ x.r ≤ 6 ∧ x.c ≤ 6 ∧ (n ∉ g.names → R NoNameX) ∧ (n ∈ g.names → z < 0 ∨ cntT g.rules n x.r x.c x.k ≤ z → R NoNumX) ∧ (n ∈ g.names → 0 ≤ z → z < cntT g.rules n x.r x.c x.k → ∀ t : Tr, P (rv t))
noncomputable def to35S : Tw.Spec := fun A _ R => ∃ (g : GramD) (n : Tx) (r c k : Int), A = [vl g, vl n, vl r, vl c, vl k] ∧ g.Made ∧ n ∉ g.names ∧ R NoNameX
structure Shp4 where
  n : Tx
  r : Int
  c : Int
  k : Int
noncomputable instance : HetT Shp4 := ⟨fun x => [vl x.n, vl x.r, vl x.c, vl x.k]⟩
noncomputable def err35S : Tw.Spec := fun A P _ => ∃ (g : GramD) (x : Shp4) (z : Option Int), A = [vl g, vl x, vl z] ∧ g.Made ∧ BoxS ⟨x.r, x.c, x.k⟩ ∧ x.r ≤ 6 ∧ x.c ≤ 6 ∧
  (x.n ∉ g.names → P (rv (some ⟨"NoName"⟩ : Option Err))) ∧ (x.n ∈ g.names → ∃ y, z = some y ∧ (y < 0 ∨ cntT g.rules x.n x.r x.c x.k ≤ y → P (rv (some ⟨"NoNumber"⟩ : Option Err))) ∧ (0 ≤ y → y < cntT g.rules x.n x.r x.c x.k → P (rv (none : Option Err))))
noncomputable def nn35S (s : Str) : Tw.Spec := fun A P _ => ∃ o : Option Err, A = [vl o] ∧ o = some ⟨s⟩ ∧ P (rv true)
section
variable {P : Program} {w : World} {K : PySem.W.Frag} {mg : Str → Option Value} {base : Heap}
theorem ok_of_nameX (T : Txt K mg) : HasM P w K mg base 2 "Counter" "of_name" ["self", "name", "rows", "columns", "cost"] (ofNameXS K) := by
  refine HasM.of T.m_Counter_of_name sc_Counter_of_name (fun A Q R ⟨C, a, dx, da, g, n, r, c, k, e, _⟩ => by rw [e]; rfl) fun f cdv A outer s0 H E hr Γ Q R ⟨C, a, dx, da, g, n, r, c, k, e, hC, hg, hn, hq⟩ => ?_
  subst e
  obtain ⟨C', kC, gC⟩ := id T.o_Counter
  obtain rfl := ns_one kC.ns hC
  have nk := T.a_Counter_kept _ hC
  have ng := T.a_Counter_grammar _ hC
  have h24 := hg.ok.many
  refine st_set 5 (x := Key4.mk n r c k) (ev_key4 (ev_tupH (es_cons (ev_d (α := Tx) (ev_var 1)) (es_cons (ev_d (α := Int) (ev_var 2)) (es_cons (ev_d (α := Int) (ev_var 3)) (es_cons (ev_d (α := Int) (ev_var 4)) es_nil)))))) ?_ sc_Counter_of_name.nd
  refine st_if (k := !(look ([] : List (Key4 × Int)) (Key4.mk n r c k)).isSome) (et_cnotin 0 (f1 := "grammar") (f2 := "kept") hr (by decide) kC.cl nk (ev_var 5)) (fun _ => ?_) (fun h => (by rw [look_nil] at h; cases h))
  refine st_set 6 (x := (0 : Int)) ev_int ?_ sc_Counter_of_name.nd
  exact st_forR (R := fun y => y = NoNameX) (exx_meth (x := g) T.o_Grammar (ok_Grammar_numbers_of T) (hr.mono (by omega)) rfl (lk rfl) (ev_cfld 0 kC.cl ng) (ea_cons (x := n) (ev_var 1) ea_nil) fun P' R' _ h' => ⟨g, n, rfl, by omega, fun z => absurd z hn, fun _ => h' _ rfl⟩) (fun y e => e ▸ hq) (pgn 7 sc_Counter_of_name.nd)
theorem ok_treeX (T : Txt K mg) : HasM P w K mg base 53 "Counter" "tree" ["self", "name", "rows", "columns", "cost", "k"] (treeXS K) := by
  refine HasM.of T.m_Counter_tree sc_Counter_tree (fun A Q R ⟨C, a, dx, da, g, l, n, x, z, e, _⟩ => by rw [e]; rfl) fun f cdv A outer s0 H E hr Γ Q R ⟨C, a, dx, da, g, l, n, x, z, e, hC, hg, hk, hnm, hb, hz, hq⟩ => ?_
  subst e
  obtain ⟨C', kC, gC⟩ := id T.o_Counter
  obtain rfl := ns_one kC.ns hC
  have ng := T.a_Counter_grammar _ hC
  have hcosts := made_cost hg
  obtain ⟨x1, x2, x3, x4, x5, x6⟩ := id hb
  have h24 := hg.ok.many
  rw [cntT_eq hcosts] at hz
  refine st_for (fun m Γ' => ∃ l', Le Γ' [.own (cO C a dx da g l'), vl n, vl x.r, vl x.c, vl x.k, vl (z - nmSum g.rules n x m), .no, .no, .no] ∧ Kept g l') (src_list (xs := numbersL n g.rules) (ev_of_en (en_of_ex (ex_of_exx (exx_meth (x := g) T.o_Grammar (ok_Grammar_numbers_of T) (hr.mono (by omega)) rfl (lk rfl) (ev_cfld 0 kC.cl ng) (ea_cons (x := n) (ev_var 1) ea_nil) fun P' R' h' _ => ⟨g, n, rfl, by omega, fun _ => h' _ rfl, fun z => absurd hnm z⟩))))) (tg_name 6) ⟨l, by rw [show z - nmSum g.rules n x 0 = z from by unfold nmSum; rw [List.take_zero]; show z - 0 = z; omega]; exact Le.refl, hk⟩ (fun m i Γ' hm hP => ?_) (fun Γ' hP => ?_) (pgn 6 sc_Counter_tree.nd)
  · obtain ⟨l1, le, hk1⟩ := hP
    obtain ⟨q, hqa, hqm, hqf⟩ := nums_at hm
    refine st_le (Le.set le 6 _) ?_
    generalize hkk : z - nmSum g.rules n x m = kk
    refine st_set 7 (x := q) (ev_of_ex (ex_of_exx (exx_meth (x := g) T.o_Grammar (ok_Grammar_rule T) (hr.mono (by omega)) rfl (lk rfl) (ev_cfld 0 kC.cl ng) (ea_cons (x := i) (ev_var 6) ea_nil) fun P' R' h' _ => ⟨g, i, q, rfl, hqa, h' _ rfl⟩))) ?_ sc_Counter_tree.nd
    refine st_setGE 8 (i := repInt) (G := fun v Γ' => ∃ l', Kept g l' ∧ v = cntR (cntT g.rules) q x.r x.c x.k ∧ Γ' = [.own (cO C a dx da g l'), vl n, vl x.r, vl x.c, vl x.k, vl kk, vl i, vl q, .no]) (eg_methC 0 (lr := repInt) (m := "of_rule") (G := fun v o => ∃ l', Kept g l' ∧ v = cntR (cntT g.rules) q x.r x.c x.k ∧ o = cO C a dx da g l') T.o_Counter (of_rule16 T) (hr.mono (by omega)) hC (by decide) (by decide) (ea_cons (x := q) (ev_var 7) (ea_cons (ev_var 2) (ea_cons (ev_var 3) (ea_cons (ev_var 4) ea_nil)))) rfl rfl (fun _ _ ⟨l', _, _, e⟩ => by rw [e]; rfl) (fun v o ⟨l', h1, h2, h3⟩ => ⟨v, ⟨l', h1, h2, by rw [h3]; rfl⟩, rfl⟩) fun P' R' h' _ => ⟨C, a, dx, da, g, l1, q, _, _, _, rfl, hC, hg, hk1, hqm, x1, x2, x3, x4, x5, by omega, by omega, fun l' hl' => h' _ _ ⟨l', hl', rfl, rfl⟩⟩) (fun v Γ' hv => ?_) sc_Counter_tree.nd
    obtain ⟨l2, hl2, rfl, rfl⟩ := hv
    have hts := take_sum (f := fun q => cntR (cntT g.rules) q x.r x.c x.k) hqf
    have hmono := take_le (f := fun q => cntR (cntT g.rules) q x.r x.c x.k) (l := g.rules.filter fun q => decide (q.name = n)) (m + 1) (fun q => cntQ_nn ..)
    have hge : ¬ kk < cntR (cntT g.rules) q x.r x.c x.k := by
      unfold nmSum at hkk
      omega
    refine st_if (k := false) (et_eq (et_cmp o_lt (ev_var 5) (ev_var 8)) (decide_eq_false hge)) (fun h => nomatch h) (fun _ => st_nil ?_)
    refine st_set 5 (x := z - nmSum g.rules n x (m + 1)) (ev_eq (ev_bin o_sub (ev_var 5) (ev_var 8)) (by
      rw [← hkk]
      unfold nmSum
      omega)) (st_nil ?_) sc_Counter_tree.nd
    exact ⟨l2, le_cons (le_cons (le_cons (le_cons (le_cons (le_cons (le_no (le_no (le_no le_nil)))))))), hl2⟩
  · obtain ⟨l1, le, hk1⟩ := hP
    refine st_le le ?_
    exact st_raise0 T.x_NoNumber T.p_NoNumber hq
theorem ok_tree_at35 (T : Txt K mg) : Has P w K mg base 90 "tree_at" ["grammar", "name", "rows", "columns", "cost", "k"] ta35S := by
  refine Has.ofX (k := 89) T.f_tree_at sc_tree_at (fun A Q R ⟨g, n, x, z, e, _⟩ => by rw [e]; rfl) fun f cdv A outer s0 H E hr Γ Q R ⟨g, n, x, z, e, hg, hb, hr6, hc6, q1, q2, q3⟩ => ?_
  subst e
  have h24 := hg.ok.many
  by_cases hn : n ∈ g.names
  · refine st_dropX (P := fun _ => True) (R := fun _ => False) (exx_meth (x := g) T.o_Grammar (ok_Grammar_numbers_of T) (hr.mono (by omega)) rfl (lk rfl) (ev_var 0) (ea_cons (x := n) (ev_var 1) ea_nil) fun P' R' h' _ => ⟨g, n, rfl, by omega, fun _ => h' _ trivial, fun z => absurd hn z⟩) ?_ (fun _ z => z.elim)
    refine st_if (et_cmp o_lt (ev_var 5) ev_int) (fun h => ?_) (fun h => st_nil ?_)
    · exact st_raise0 T.x_NoNumber T.p_NoNumber (q2 hn (.inl (of_decide_eq_true h)))
    have h := of_decide_eq_false h
    by_cases hz : z < cntT g.rules n x.r x.c x.k
    · obtain ⟨s, hs, hsn, hsh⟩ := num_onto hg.rs 16 n x.r x.c x.k z hb.k16 hb.r1 hr6 hb.c1 hc6 (by omega) hz
      have hsc : s.c = x.k := congrArg Sz3.k hsh
      have h16 := hb.k16
      exact st_retV (ev_makeMeth (i := repInst) (j := repInt) (f1 := "grammar") (f2 := "kept") (x := g) (y := s.t) (lr := repTr) (κ := Key4) T.o_Counter (ok_Counter_init T) (all_tree T 16) (hr.mono (by omega)) (hr.mono (by omega)) (by decide) (by decide) (by decide) (ea_cons (x := g) (ev_var 0) ea_nil) rfl (ea_cons (x := n) (ev_var 1) (ea_cons (x := x.r) (ev_var 2) (ea_cons (x := x.c) (ev_var 3) (ea_cons (x := x.k) (ev_var 4) (ea_cons (x := z) (ev_var 5) ea_nil))))) rfl (fun C hC ad dx P' R' h => ⟨C, ad, dx, g, rfl, hC, h⟩) (fun C ad dx da P' R' hC h => ⟨C, ad, dx, da, g, [], s, x, z, by rw [hsn], hC, hg, Kept.nil, hsh.symm, hs, by omega, fun l' _ => h _⟩)) (q3 hn (by omega) hz s.t)
    · exact st_retX (P := fun r => ∃ y, False ∧ r = .val repTr y) (R := fun y => y = NoNumX) (exx_makeMeth (G := fun _ => False) (i := repInst) (j := repInt) (f1 := "grammar") (f2 := "kept") (x := g) (lr := repTr) (κ := Key4) T.o_Counter (ok_Counter_init T) (ok_treeX T) (hr.mono (by omega)) (hr.mono (by omega)) (by decide) (by decide) (by decide) (ea_cons (x := g) (ev_var 0) ea_nil) rfl (ea_cons (x := n) (ev_var 1) (ea_cons (x := x.r) (ev_var 2) (ea_cons (x := x.c) (ev_var 3) (ea_cons (x := x.k) (ev_var 4) (ea_cons (x := z) (ev_var 5) ea_nil))))) rfl (fun C hC ad dx P' R' h => ⟨C, ad, dx, g, rfl, hC, h⟩) (fun C ad dx da P' R' hC _ h => ⟨C, ad, dx, da, g, [], n, x, z, rfl, hC, hg, Kept.nil, hn, hb, by omega, h _ rfl⟩)) (fun r ⟨y, h, _⟩ => h.elim) (fun y e => e ▸ q2 hn (.inr (by omega)))
  · exact st_dropR (R := fun y => y = NoNameX) (exx_meth (x := g) T.o_Grammar (ok_Grammar_numbers_of T) (hr.mono (by omega)) rfl (lk rfl) (ev_var 0) (ea_cons (x := n) (ev_var 1) ea_nil) fun P' R' _ h' => ⟨g, n, rfl, by omega, fun z => absurd z hn, fun _ => h' _ rfl⟩) (fun y e => e ▸ q1 hn)
theorem ok_trees_of35 (T : Txt K mg) : Has P w K mg base 90 "trees_of" ["grammar", "name", "rows", "columns", "cost"] to35S := by
  refine Has.ofX (k := 89) T.f_trees_of sc_trees_of (fun A Q R ⟨g, n, r, c, k, e, _⟩ => by rw [e]; rfl) fun f cdv A outer s0 H E hr Γ Q R ⟨g, n, r, c, k, e, hg, hn, hq⟩ => ?_
  subst e
  refine st_setO 5 (ex_makeC (i := repInst) (j := repInt) (f1 := "grammar") (f2 := "kept") (x := g) (κ := Key4) (β := Int) T.o_Counter (ok_Counter_init T) (hr.mono (by omega)) (ea_cons (x := g) (ev_var 0) ea_nil) rfl (fun C hC ad dx P' R' h => ⟨C, ad, dx, g, rfl, hC, h⟩)) (fun o ⟨C, a, dx, da, hC, e⟩ => ?_) sc_trees_of.nd
  subst e
  exact st_ifGX (R := fun y _ => y = NoNameX) (etgx_cmp (op := .Gt) (i := repInt) (j := repInt) (y := (300 : Int)) (N := fun _ _ => False) (z := fun v => decide (300 < v)) (fun v => o_gt) (eg_methC 5 (lr := repInt) (m := "of_name") (G := fun _ _ => False) T.o_Counter (ok_of_nameX T) (hr.mono (by omega)) hC (by decide) (by decide) (ea_cons (x := n) (ev_var 1) (ea_cons (ev_var 2) (ea_cons (ev_var 3) (ea_cons (ev_var 4) ea_nil)))) rfl rfl (fun _ _ h => h.elim) (fun _ _ h => h.elim) fun P' R' _ h => ⟨C, a, dx, da, g, n, r, c, k, rfl, hC, hg, hn, h _ rfl⟩) (fun v Γ' h => h.elim)) (fun Γ' ⟨_, h, _⟩ => h.elim) (fun Γ' ⟨_, h, _⟩ => h.elim) (fun y Γ' e => e ▸ hq)
theorem ok_law_error (T : Txt K mg) : Has P w K mg base 91 "_law_error" ["_law_grammar_here", "_law_shape", "_law_k"] err35S := by
  refine Has.of T.f_law_error sc_law_error (fun A Q R ⟨g, x, z, e, _⟩ => by rw [e]; rfl) fun f cdv A outer s0 H E hr Γ Q R ⟨g, x, z, e, hg, hb, hr6, hc6, q1, q2⟩ => ?_
  subst e
  refine st_set 3 (i := @repOpt Err repErr) (x := (none : Option Err)) (ev_nonO (i := repErr)) ?_ sc_law_error.nd
  refine st_try 4 sc_law_error.nd T.x_QuiltError fun pn xe hpass => ?_
  by_cases hn : x.n ∈ g.names
  · obtain ⟨y, rfl, q3, q4⟩ := q2 hn
    refine st_if (k := false) (et_cmp (o_isO (α := Int) (x := some y)) (ev_var 2) ev_non) (fun h => nomatch h) (fun _ => ?_)
    by_cases hy : y < 0 ∨ cntT g.rules x.n x.r x.c x.k ≤ y
    · refine st_dropR (R := fun y => y = NoNumX) (exx_call (ok_tree_at35 T) (hr.mono (by decide)) (ea_cons (x := g) (ev_var 0) (ea_cons (x := x.n) (ev_ixX (x := x) (n := 0) (k := 0) (ev_var 1) ev_int rfl rfl) (ea_cons (x := x.r) (ev_ixX (x := x) (n := 1) (k := 1) (ev_var 1) ev_int rfl rfl) (ea_cons (x := x.c) (ev_ixX (x := x) (n := 2) (k := 2) (ev_var 1) ev_int rfl rfl) (ea_cons (x := x.k) (ev_ixX (x := x) (n := 3) (k := 3) (ev_var 1) ev_int rfl rfl) (ea_cons (x := y) (ev_un (ev_var 2)) ea_nil)))))) fun P' R' _ h => ⟨g, x.n, ⟨x.r, x.c, x.k⟩, y, rfl, hg, hb, hr6, hc6, fun z => absurd hn z, fun _ _ => h _ rfl, fun _ h1 h2 => by (exfalso; have h2 : y < cntT g.rules x.n x.r x.c x.k := h2; omega)⟩) (fun y e => ?_)
      subst e
      refine .inl ⟨T.s_NoNumber_QuiltError, fun a pn => ?_⟩
      refine st_set 3 (x := some (⟨"NoNumber"⟩ : Err)) (ev_some (ev_var (x := (⟨"NoNumber"⟩ : Err)) 4)) (st_nil ?_) sc_law_error.nd
      exact st_retV (ev_var 3) (q3 hy)
    · refine st_dropX (P := fun _ => True) (R := fun _ => False) (exx_call (ok_tree_at35 T) (hr.mono (by decide)) (ea_cons (x := g) (ev_var 0) (ea_cons (x := x.n) (ev_ixX (x := x) (n := 0) (k := 0) (ev_var 1) ev_int rfl rfl) (ea_cons (x := x.r) (ev_ixX (x := x) (n := 1) (k := 1) (ev_var 1) ev_int rfl rfl) (ea_cons (x := x.c) (ev_ixX (x := x) (n := 2) (k := 2) (ev_var 1) ev_int rfl rfl) (ea_cons (x := x.k) (ev_ixX (x := x) (n := 3) (k := 3) (ev_var 1) ev_int rfl rfl) (ea_cons (x := y) (ev_un (ev_var 2)) ea_nil)))))) fun P' R' h _ => ⟨g, x.n, ⟨x.r, x.c, x.k⟩, y, rfl, hg, hb, hr6, hc6, fun z => absurd hn z, fun _ h' => absurd h' hy, fun _ _ _ t => h _ trivial⟩) (st_nil (st_nil ?_)) (fun _ z => z.elim)
      exact st_retV (ev_var 3) (q4 (by omega) (by omega))
  · have raised : ∀ (y : Exn), y = NoNameX → y = NoNameX := fun y e => e
    cases z with
    | none =>
      refine st_if (k := true) (et_cmp (o_isO (α := Int) (x := none)) (ev_var 2) ev_non) (fun _ => ?_) (fun h => nomatch h)
      refine st_dropR (R := fun y => y = NoNameX) (exx_call (ok_trees_of35 T) (hr.mono (by decide)) (ea_cons (x := g) (ev_var 0) (ea_cons (x := x.n) (ev_ixX (x := x) (n := 0) (k := 0) (ev_var 1) ev_int rfl rfl) (ea_cons (x := x.r) (ev_ixX (x := x) (n := 1) (k := 1) (ev_var 1) ev_int rfl rfl) (ea_cons (x := x.c) (ev_ixX (x := x) (n := 2) (k := 2) (ev_var 1) ev_int rfl rfl) (ea_cons (x := x.k) (ev_ixX (x := x) (n := 3) (k := 3) (ev_var 1) ev_int rfl rfl) ea_nil))))) fun P' R' _ h => ⟨g, x.n, x.r, x.c, x.k, rfl, hg, hn, h _ rfl⟩) (fun y e => ?_)
      subst e
      refine .inl ⟨T.s_NoName_QuiltError, fun a pn => ?_⟩
      refine st_set 3 (x := some (⟨"NoName"⟩ : Err)) (ev_some (ev_var (x := (⟨"NoName"⟩ : Err)) 4)) (st_nil ?_) sc_law_error.nd
      exact st_retV (ev_var 3) (q1 hn)
    | some y =>
      refine st_if (k := false) (et_cmp (o_isO (α := Int) (x := some y)) (ev_var 2) ev_non) (fun h => nomatch h) (fun _ => ?_)
      refine st_dropR (R := fun y => y = NoNameX) (exx_call (ok_tree_at35 T) (hr.mono (by decide)) (ea_cons (x := g) (ev_var 0) (ea_cons (x := x.n) (ev_ixX (x := x) (n := 0) (k := 0) (ev_var 1) ev_int rfl rfl) (ea_cons (x := x.r) (ev_ixX (x := x) (n := 1) (k := 1) (ev_var 1) ev_int rfl rfl) (ea_cons (x := x.c) (ev_ixX (x := x) (n := 2) (k := 2) (ev_var 1) ev_int rfl rfl) (ea_cons (x := x.k) (ev_ixX (x := x) (n := 3) (k := 3) (ev_var 1) ev_int rfl rfl) (ea_cons (x := y) (ev_un (ev_var 2)) ea_nil)))))) fun P' R' _ h => ⟨g, x.n, ⟨x.r, x.c, x.k⟩, y, rfl, hg, hb, hr6, hc6, fun _ => h _ rfl, fun z => absurd z hn, fun z => absurd z hn⟩) (fun y e => ?_)
      subst e
      refine .inl ⟨T.s_NoName_QuiltError, fun a pn => ?_⟩
      refine st_set 3 (x := some (⟨"NoName"⟩ : Err)) (ev_some (ev_var (x := (⟨"NoName"⟩ : Err)) 4)) (st_nil ?_) sc_law_error.nd
      exact st_retV (ev_var 3) (q1 hn)
theorem ok_law_no_number (T : Txt K mg) : Has P w K mg base 1 "_law_no_number" ["_law_error_here"] (nn35S "NoNumber") := by
  refine Has.of T.f_law_no_number sc_law_no_number (fun A Q R ⟨o, e, _⟩ => by rw [e]; rfl) fun f cdv A outer s0 H E hr Γ Q R ⟨o, e, eo, hq⟩ => ?_
  subst e eo
  refine st_if (k := false) (et_eq (et_or (et_not (et_val (ev_isiE (α := Err) (x := ⟨"NoNumber"⟩) T.b_isinstance T.x_NoNumber T.x_NoNumber T.s_NoNumber_NoNumber (ev_un (ev_var 0))))) fun _ => et_not (et_val (ev_isiEB (α := Err) (x := ⟨"NoNumber"⟩) "ValueError" T.b_isinstance T.b_ValueError T.x_NoNumber T.t_NoNumber_ValueError (ev_un (ev_var 0))))) rfl) (fun h => nomatch h) (fun _ => st_nil ?_)
  exact st_retV (ev_eq (y := true) (ev_and2 (ev_not (ev_isiE (α := Err) (x := ⟨"NoNumber"⟩) T.b_isinstance T.x_NoNumber T.x_NoName T.s_NoNumber_NoName (ev_un (ev_var 0)))) fun _ => ev_not (ev_isiE (α := Err) (x := ⟨"NoNumber"⟩) T.b_isinstance T.x_NoNumber T.x_TooMany T.s_NoNumber_TooMany (ev_un (ev_var 0)))) rfl) hq
theorem ok_law_no_name (T : Txt K mg) : Has P w K mg base 1 "_law_no_name" ["_law_error_here"] (nn35S "NoName") := by
  refine Has.of T.f_law_no_name sc_law_no_name (fun A Q R ⟨o, e, _⟩ => by rw [e]; rfl) fun f cdv A outer s0 H E hr Γ Q R ⟨o, e, eo, hq⟩ => ?_
  subst e eo
  exact st_retV (ev_eq (y := true) (ev_and (ev_isiE (α := Err) (x := ⟨"NoName"⟩) T.b_isinstance T.x_NoName T.x_NoName T.s_NoName_NoName (ev_un (ev_var 0))) fun _ => ev_and2 (ev_not (ev_isiE (α := Err) (x := ⟨"NoName"⟩) T.b_isinstance T.x_NoName T.x_NoNumber T.s_NoName_NoNumber (ev_un (ev_var 0)))) fun _ => ev_not (ev_isiE (α := Err) (x := ⟨"NoName"⟩) T.b_isinstance T.x_NoName T.x_TooMany T.s_NoName_TooMany (ev_un (ev_var 0)))) rfl) hq
end
theorem tx_number : TxOk (tx "number") := by unfold TxOk; decide +kernel
theorem tx_parts : TxOk (tx "parts") := by unfold TxOk; decide +kernel
structure Spoilt (rs : List RuleD) (t t' : Tr) (w : Flt) : Prop where
  ft : ∀ pl nm, nf rs t pl nm = none → nf rs t' pl nm = some (w.1, ⟨pl ++ w.2.l⟩)
  dp : t'.dep ≤ t.dep + 1
  ln : w.2.l.length < t.dep
  ok : TxOk w.1
theorem nf_parts {rs : List RuleD} {t : Tr} {pl : List Int} {nm : Option Tx} (h : nf rs t pl nm = none) : nfHead rs t.num t.subs.length pl nm = none ∧ nfs rs t.subs pl 0 (ruleAt rs t.num).parts = none := by
  rw [nf_eq] at h
  cases hh : nfHead rs t.num t.subs.length pl nm with
  | some f => rw [hh] at h; cases h
  | none => rw [hh] at h; exact ⟨rfl, h⟩
theorem nfHead_parts {rs : List RuleD} {n : Int} {ar : Nat} {pl : List Int} {nm : Option Tx} (h : nfHead rs n ar pl nm = none) : (decide (n < 0) || decide ((rs.length : Int) ≤ n)) = false ∧ ar = (ruleAt rs n).parts.length := by
  unfold nfHead at h
  split at h
  · cases h
  rename_i h1
  split at h
  · cases h
  rename_i h2
  refine ⟨?_, Classical.not_not.mp h2⟩
  cases q : (decide (n < 0) || decide ((rs.length : Int) ≤ n)) with
  | true => exact absurd q h1
  | false => rfl
theorem spoil_num {rs : List RuleD} {t : Tr} {n : Int} (h : n < 0 ∨ (rs.length : Int) ≤ n) : Spoilt rs t (.node n t.subs) (tx "number", ⟨[]⟩) := by
  refine ⟨fun pl nm _ => ?_, ?_, ?_, ?_⟩
  · rw [nf]
    have e : nfHead rs n t.subs.length pl nm = some (tx "number", ⟨pl⟩) := by
      unfold nfHead
      rw [if_pos]
      rw [Bool.or_eq_true, decide_eq_true_eq, decide_eq_true_eq]; exact h
    rw [e]
    show some (tx "number", (⟨pl⟩ : Tup Int)) = some (tx "number", ⟨pl ++ []⟩)
    rw [List.append_nil]
  · rw [Tr.dep, Tr.dep_eq]; omega
  · exact Tr.dep_pos t
  · exact tx_number
theorem spoil_parts {rs : List RuleD} {t : Tr} {ts : List Tr} (h : ts.length ≠ t.subs.length) (hd : Tr.deps ts ≤ t.dep) : Spoilt rs t (.node t.num ts) (tx "parts", ⟨[]⟩) := by
  refine ⟨fun pl nm h0 => ?_, by rw [Tr.dep]; omega, Tr.dep_pos t, tx_parts⟩
  obtain ⟨h1, h2⟩ := nfHead_parts (nf_parts h0).1
  rw [nf]
  have e : nfHead rs t.num ts.length pl nm = some (tx "parts", ⟨pl⟩) := by
    unfold nfHead
    rw [h1, if_neg (by decide), if_pos (by rw [← h2]; exact h)]
  rw [e]
  show some (tx "parts", (⟨pl⟩ : Tup Int)) = some (tx "parts", ⟨pl ++ []⟩)
  rw [List.append_nil]
theorem nfs_mid {rs : List RuleD} {s bad : Tr} {pl : List Int} {C : List Tr} {f : Flt} : ∀ (A : List Tr) (k0 : Nat) (ps : List Tx), (∀ q, nf rs s (pl ++ [((k0 + A.length : Nat) : Int)]) (some q) = none → nf rs bad (pl ++ [((k0 + A.length : Nat) : Int)]) (some q) = some f) → nfs rs (A ++ s :: C) pl k0 ps = none → nfs rs (A ++ bad :: C) pl k0 ps = some f
  | [], k0, ps, hb, h => by
    rw [List.nil_append, nfs] at h ⊢
    have hb := hb (ps.headD [])
    rw [show k0 + ([] : List Tr).length = k0 from rfl] at hb
    cases hv : nf rs s (pl ++ [(k0 : Int)]) (some (ps.headD [])) with
    | some f' => rw [hv] at h; cases h
    | none => rw [hb hv]
  | a :: A, k0, ps, hb, h => by
    rw [List.cons_append, nfs] at h ⊢
    cases hv : nf rs a (pl ++ [(k0 : Int)]) (some (ps.headD [])) with
    | some f' => rw [hv] at h; cases h
    | none =>
      rw [hv] at h
      refine nfs_mid A (k0 + 1) ps.tail (fun q hq => ?_) h
      have e : k0 + 1 + A.length = k0 + (a :: A).length := by rw [List.length_cons]; omega
      rw [e] at hq ⊢
      exact hb q hq
theorem spoil_in {rs : List RuleD} {t s bad : Tr} {A C : List Tr} {w : Flt} (ht : t.subs = A ++ s :: C) (h : Spoilt rs s bad w) : Spoilt rs t (.node t.num (A ++ bad :: C)) (w.1, ⟨(A.length : Int) :: w.2.l⟩) := by
  refine ⟨fun pl nm h0 => ?_, ?_, ?_, h.ok⟩
  · obtain ⟨h1, h2⟩ := nf_parts h0
    rw [nf]
    have hl : (A ++ bad :: C).length = t.subs.length := by rw [ht, List.length_append, List.length_append, List.length_cons, List.length_cons]
    rw [hl, h1]
    rw [ht] at h2
    refine nfs_mid (f := (w.1, ⟨pl ++ (A.length : Int) :: w.2.l⟩)) A 0 _ (fun q hq => ?_) h2
    rw [Nat.zero_add] at hq ⊢
    have := h.ft _ _ hq
    rw [List.append_assoc] at this
    exact this
  · rw [Tr.dep]
    refine Nat.succ_le_succ (Tr.deps_le fun x hx => ?_)
    have hs : ∀ y ∈ t.subs, y.dep < t.dep := fun y hy => Tr.dep_sub hy
    rcases List.mem_append.mp hx with hx | hx
    · exact Nat.le_of_lt (hs x (by rw [ht]; exact List.mem_append_left _ hx))
    · rcases List.mem_cons.mp hx with rfl | hx
      · have h1 := h.dp
        have h2 := hs s (by rw [ht]; simp)
        omega
      · exact Nat.le_of_lt (hs x (by rw [ht]; exact List.mem_append_right _ (List.mem_cons_of_mem _ hx)))
  · have h1 := h.ln
    have h2 : s.dep < t.dep := Tr.dep_sub (by rw [ht]; simp)
    show ((A.length : Int) :: w.2.l).length < t.dep
    rw [List.length_cons]
    omega
theorem nf_sub {rs : List RuleD} {s : Tr} {pl : List Int} : ∀ {ts : List Tr} {k0 : Nat} {ps : List Tx}, nfs rs ts pl k0 ps = none → s ∈ ts → ∃ pl' nm, nf rs s pl' nm = none
  | t :: ts, k0, ps, h, hs => by
    rw [nfs] at h
    cases hv : nf rs t (pl ++ [(k0 : Int)]) (some (ps.headD [])) with
    | some f' => rw [hv] at h; cases h
    | none =>
      rw [hv] at h
      rcases List.mem_cons.mp hs with rfl | hs
      · exact ⟨_, _, hv⟩
      · exact nf_sub h hs
noncomputable def sp35S : Tw.Spec := fun A P _ => ∃ (rs : List RuleD) (t : Tr) (c : Int), A = [vl t, vl c, vl (rs.length : Int)] ∧ t.subs.length ≤ 2 ∧ ∀ t' w, Spoilt rs t t' w → P (rv ((t', w) : Tr × Flt))
noncomputable def sw35S (d : Nat) : Tw.Spec := fun A P _ => ∃ (rs : List RuleD) (t : Tr) (c : Int), A = [vl t, vl c, vl (rs.length : Int)] ∧ t.dep ≤ d ∧ d ≤ 100 ∧ (∃ pl nm, nf rs t pl nm = none) ∧ ∀ t' w, Spoilt rs t t' w → P (rv ((t', w) : Tr × Flt))
noncomputable def no35S : Tw.Spec := fun A _ R => ∃ (g : GramD) (t : Tr) (f : Flt), A = [vl g, vl t] ∧ t.dep ≤ 80 ∧ g.Made ∧ faultOf g.rules t = some f ∧ R (NoTree f)
noncomputable def why35S : Tw.Spec := fun A P _ => ∃ (g : GramD) (t : Tr) (f : Flt), A = [vl g, vl t] ∧ t.dep ≤ 80 ∧ g.Made ∧ faultOf g.rules t = some f ∧ P (rv f)
theorem fit_small {rs : List RuleD} {t : Tr} {pl : List Int} {nm : Option Tx} (h : nf rs t pl nm = none) : t.subs.length ≤ 2 := by
  have := (nfHead_parts (nf_parts h).1).2
  have := RuleD.parts_len (ruleAt rs t.num)
  omega
theorem pow30 : CPow 10 30 := by unfold CPow; decide
section
variable {P : Program} {w : World} {K : PySem.W.Frag} {mg : Str → Option Value} {base : Heap}
theorem ok_law_spoilt (T : Txt K mg) : Has P w K mg base 1 "_law_spoilt" ["_law_tree", "_law_cell_here", "_law_many"] sp35S := by
  refine Has.of (k := 0) T.f_law_spoilt sc_law_spoilt (fun A Q R ⟨rs, t, c, e, _⟩ => by rw [e]; rfl) fun f cdv A outer s0 H E hr Γ Q R ⟨rs, t, c, e, h2, hq⟩ => ?_
  subst e
  have p0 : (0 : Int) < 10 ^ (30 : Int).toNat := by decide
  refine st_set 3 (x := c / 4 % 10 ^ (30 : Int).toNat) (ev_bin (o_mod p0) (ev_bin (o_div divK) (ev_var 1) ev_int) (ev_pow pow30 ev_int ev_int)) ?_ sc_law_spoilt.nd
  have hf := Int.emod_nonneg (c / 4) (Int.ne_of_gt p0)
  generalize c / 4 % 10 ^ (30 : Int).toNat = far at hf
  refine st_if (et_cmp o_eq (ev_bin (o_mod (by decide)) (ev_var 1) ev_int) ev_int) (fun h => ?_) (fun h => st_nil ?_)
  · exact st_retV (ev_pair (α := Tr) (β := Flt) (x := Tr.node ((rs.length : Int) + far) t.subs) (ev_ofTup (t := Tr.node ((rs.length : Int) + far) t.subs) (xs := Dy.i ((rs.length : Int) + far) :: t.subs.map Tr.d) (ev_catT (xs := Tup.mk [Dy.i ((rs.length : Int) + far)]) (ys := Tup.mk (t.subs.map Tr.d)) (ev_tupH (es_cons (ev_d (α := Int) (ev_bin o_add (ev_var 2) (ev_var 3))) es_nil)) (ev_t (ev_d (α := Tup Tr) (ev_subs (t := t) (ev_var 0) ev_int))) (by simp) (sl_small (by simp; omega))) (Tr.d_eq _)) (ev_pair (x := tx "number") (y := Tup.mk ([] : List Int)) (ev_str "number") (ev_tupH es_nil))) (hq _ _ (spoil_num (.inr (by omega))))
  refine st_if (et_cmp o_eq (ev_bin (o_mod (by decide)) (ev_var 1) ev_int) ev_int) (fun h => ?_) (fun h => st_nil ?_)
  · exact st_retV (ev_pair (α := Tr) (β := Flt) (x := Tr.node (-1 - far) t.subs) (ev_ofTup (t := Tr.node (-1 - far) t.subs) (xs := Dy.i (-1 - far) :: t.subs.map Tr.d) (ev_catT (xs := Tup.mk [Dy.i (-1 - far)]) (ys := Tup.mk (t.subs.map Tr.d)) (ev_tupH (es_cons (ev_d (α := Int) (ev_bin o_sub (ev_neg ev_int) (ev_var 3))) es_nil)) (ev_t (ev_d (α := Tup Tr) (ev_subs (t := t) (ev_var 0) ev_int))) (by simp) (sl_small (by simp; omega))) (Tr.d_eq _)) (ev_pair (x := tx "number") (y := Tup.mk ([] : List Int)) (ev_str "number") (ev_tupH es_nil))) (hq _ _ (spoil_num (.inl (by omega))))
  refine st_if (k := decide (t.subs.length = 2) || (decide (c % 4 = 2) && decide (t.subs.length = 1))) (et_or (et_eq (et_cmp o_eq (ev_lenTr (t := t) T.b_len (ev_var 0)) ev_int) (decide_eq_decide.mpr (by omega))) fun _ => et_and (et_cmp o_eq (ev_bin (o_mod (by decide)) (ev_var 1) ev_int) ev_int) fun _ => et_eq (et_cmp o_eq (ev_lenTr (t := t) T.b_len (ev_var 0)) ev_int) (decide_eq_decide.mpr (by omega))) (fun h => ?_) (fun h => st_nil ?_)
  · have h1 : 1 ≤ t.subs.length := by
      simp only [Bool.or_eq_true, Bool.and_eq_true, decide_eq_true_eq] at h
      omega
    have hcut : cutL (Dy.i t.num :: t.subs.map Tr.d) none (some ((t.subs.length : Nat) : Int)) = Dy.i t.num :: (t.subs.take (t.subs.length - 1)).map Tr.d := by
      rw [cutL_to]
      obtain ⟨m, hm⟩ : ∃ m, t.subs.length = m + 1 := ⟨t.subs.length - 1, by omega⟩
      rw [hm, List.take_succ_cons, Nat.add_sub_cancel, List.map_take]
    refine st_retV (ev_pair (α := Tr) (β := Flt) (x := Tr.node t.num (t.subs.take (t.subs.length - 1))) (ev_ofTup (t := Tr.node t.num (t.subs.take (t.subs.length - 1))) (ev_eq (ev_sliceA (lo := none) (o1 := none) (o2 := some ((t.subs.length : Nat) : Int)) (ev_tupTr (t := t) (ev_var 0)) trivial (ev_eq (ev_bin o_sub (ev_lenTr (t := t) T.b_len (ev_var 0)) ev_int) (by omega))) (congrArg Tup.mk hcut)) (Tr.d_eq _)) (ev_pair (x := tx "parts") (y := Tup.mk ([] : List Int)) (ev_str "parts") (ev_tupH es_nil))) (hq _ _ (spoil_parts (by rw [List.length_take]; omega) (Tr.deps_le fun s hs => Nat.le_of_lt (Tr.dep_sub (List.mem_of_mem_take hs)))))
  · refine st_retV (ev_pair (α := Tr) (β := Flt) (x := Tr.node t.num (t.subs ++ [t])) (ev_ofTup (t := Tr.node t.num (t.subs ++ [t])) (ev_catT (xs := Tup.mk (Dy.i t.num :: t.subs.map Tr.d)) (ys := Tup.mk [t.d]) (ev_tupTr (t := t) (ev_var 0)) (ev_tupH (es_cons (ev_d (α := Tr) (ev_var (x := t) 0)) es_nil)) (by simp) (sl_small (by simp; omega))) ((Tr.d_eq _).trans ?_)) (ev_pair (x := tx "parts") (y := Tup.mk ([] : List Int)) (ev_str "parts") (ev_tupH es_nil))) (hq _ _ (spoil_parts (by rw [List.length_append, List.length_singleton]; omega) (Tr.deps_le fun s hs => ?_)))
    · show Dy.t (Dy.i t.num :: (t.subs ++ [t]).map Tr.d) = Dy.t ((Dy.i t.num :: t.subs.map Tr.d) ++ [t.d])
      rw [List.map_append]; rfl
    · rcases List.mem_append.mp hs with hs | hs
      · exact Nat.le_of_lt (Tr.dep_sub hs)
      · rw [List.mem_singleton.mp hs]; exact Nat.le_refl _
theorem ok_law_spoilt_within (T : Txt K mg) : ∀ d, Has P w K mg base (2 + d) "_law_spoilt_within" ["_law_tree", "_law_cell_here", "_law_many"] (sw35S d) := by
  intro d
  induction d with
  | zero => exact Has.of (k := 1) T.f_law_spoilt_within sc_law_spoilt_within (fun A Q R ⟨rs, t, c, e, _⟩ => by rw [e]; rfl) fun f cdv A outer s0 H E hr Γ Q R ⟨rs, t, c, e, hd, _⟩ => absurd (Tr.dep_pos t) (by omega)
  | succ d ih =>
    refine Has.of (k := 2 + d) T.f_law_spoilt_within sc_law_spoilt_within (fun A Q R ⟨rs, t, c, e, _⟩ => by rw [e]; rfl) fun f cdv A outer s0 H E hr Γ Q R ⟨rs, t, c, e, hd, hd100, ⟨pl, nm, hnf⟩, hq⟩ => ?_
    subst e
    have h2 := fit_small hnf
    refine st_if (k := decide (c % 3 = 0) || decide (t.subs.length = 0)) (et_or (et_cmp o_eq (ev_bin (o_mod (by decide)) (ev_var 1) ev_int) ev_int) fun _ => et_eq (et_cmp o_eq (ev_lenTr (t := t) T.b_len (ev_var 0)) ev_int) (decide_eq_decide.mpr (by omega))) (fun h => ?_) (fun h => st_nil ?_)
    · exact st_ret (ex_call (P := fun r => ∃ t' w, Spoilt rs t t' w ∧ r = rv ((t', w) : Tr × Flt)) (ok_law_spoilt T) (hr.mono (by omega)) (ea_cons (x := t) (ev_var 0) (ea_cons (x := c / 3) (ev_bin (o_div divK) (ev_var 1) ev_int) (ea_cons (x := (rs.length : Int)) (ev_var 2) ea_nil))) fun P' R' h => ⟨rs, t, c / 3, rfl, h2, fun t' w hw => h _ ⟨t', w, hw, rfl⟩⟩) fun r ⟨t', w, hw, e⟩ => e ▸ hq t' w hw
    simp only [Bool.or_eq_false_iff, decide_eq_false_iff_not] at h
    have h1 : 0 < t.subs.length := by omega
    have p1 := Int.emod_nonneg (c / 3) (by omega : (t.subs.length : Int) ≠ 0)
    have p2 := Int.emod_lt_of_pos (c / 3) (by omega : (0 : Int) < t.subs.length)
    obtain ⟨k, hk⟩ : ∃ k : Nat, c / 3 % (t.subs.length : Int) = (k : Int) := ⟨(c / 3 % (t.subs.length : Int)).toNat, by omega⟩
    have hkl : k < t.subs.length := by omega
    refine st_set 3 (x := (k : Int)) (ev_eq (ev_bin (o_mod (y := (t.subs.length : Int)) (by omega)) (ev_bin (o_div divK) (ev_var 1) ev_int) (ev_eq (ev_bin o_sub (ev_lenTr (t := t) T.b_len (ev_var 0)) ev_int) (by omega))) hk) ?_ sc_law_spoilt_within.nd
    have hsp : t.subs = t.subs.take k ++ t.subs[k] :: t.subs.drop (k + 1) := by
      rw [← List.drop_eq_getElem_cons hkl, List.take_append_drop]
    have hs : t.subs[k]? = some t.subs[k] := List.getElem?_eq_getElem hkl
    generalize t.subs[k] = s at hs hsp
    have hsm := List.mem_of_getElem? hs
    have hds := Tr.dep_sub hsm
    refine st_asgEx (α := Tr × Flt) (G := fun x => Spoilt rs s x.1 x.2) (ex_call ih (hr.mono (by omega)) (ea_cons (x := s) (ev_sub (k := k) (t := t) (ev_var 0) (ev_bin o_add (ev_var 3) ev_int) hs (by omega)) (ea_cons (x := c / 9) (ev_bin (o_div divK) (ev_var 1) ev_int) (ea_cons (x := (rs.length : Int)) (ev_var 2) ea_nil))) fun P' R' h => ⟨rs, s, c / 9, rfl, by omega, by omega, nf_sub (nf_parts hnf).2 hsm, fun t' w hw => h _ ⟨(t', w), hw, rfl⟩⟩) (tg_pair 4 5 (by decide)) (fun x hx => ?_) (pg2 4 5 (pgn 4 sc_law_spoilt_within.nd) (pgn 5 sc_law_spoilt_within.nd))
    obtain ⟨bad, wh⟩ := x
    have hlt : (t.subs.take k).length = k := by rw [List.length_take]; omega
    have hcut1 : cutL (Dy.i t.num :: t.subs.map Tr.d) none (some ((k + 1 : Nat) : Int)) = Dy.i t.num :: (t.subs.take k).map Tr.d := by
      rw [cutL_to, List.take_succ_cons, List.map_take]
    have hcut2 : cutL (Dy.i t.num :: t.subs.map Tr.d) (some ((k + 2 : Nat) : Int)) none = (t.subs.drop (k + 1)).map Tr.d := by
      rw [cutL_from, List.drop_succ_cons, List.map_drop]
    have hsp2 := spoil_in (rs := rs) hsp hx
    rw [hlt] at hsp2
    refine st_retV (ev_pair (α := Tr) (β := Flt) (x := Tr.node t.num (t.subs.take k ++ bad :: t.subs.drop (k + 1))) (ev_ofTup (t := Tr.node t.num (t.subs.take k ++ bad :: t.subs.drop (k + 1))) (ev_catT (xs := Tup.mk ((Dy.i t.num :: (t.subs.take k).map Tr.d) ++ [bad.d])) (ys := Tup.mk ((t.subs.drop (k + 1)).map Tr.d)) (ev_catT (xs := Tup.mk (Dy.i t.num :: (t.subs.take k).map Tr.d)) (ys := Tup.mk [bad.d]) (ev_eq (ev_sliceA (lo := none) (o1 := none) (o2 := some ((k + 1 : Nat) : Int)) (ev_tupTr (t := t) (ev_var 0)) trivial (ev_eq (ev_bin o_add (ev_var 3) ev_int) (by omega))) (congrArg Tup.mk hcut1)) (ev_tupH (es_cons (ev_d (α := Tr) (ev_var (x := bad) 4)) es_nil)) (by simp) (sl_small (by simp; omega))) (ev_eq (ev_sliceA (hi := none) (o1 := some ((k + 2 : Nat) : Int)) (o2 := none) (ev_tupTr (t := t) (ev_var 0)) (ev_eq (ev_bin o_add (ev_var 3) ev_int) (by omega)) trivial) (congrArg Tup.mk hcut2)) (by simp) (sl_small (by simp; omega))) ((Tr.d_eq _).trans ?_)) (ev_pair (α := Tx) (β := Tup Int) (x := wh.1) (y := Tup.mk ((k : Int) :: wh.2.l)) (ev_fst (x := wh) (ev_var 5)) (ev_catT (xs := Tup.mk [(k : Int)]) (ys := wh.2) (ev_tupH (es_cons (ev_var 3) es_nil)) (ev_snd (x := wh) (ev_var 5)) (by simp) ?_))) (hq _ _ hsp2)
    · show Dy.t (Dy.i t.num :: (t.subs.take k ++ bad :: t.subs.drop (k + 1)).map Tr.d) = _
      rw [List.map_append, List.map_cons]
      simp
    · have hln : wh.2.l.length < s.dep := hx.ln
      exact sl_small (by show [(k : Int)].length + wh.2.l.length ≤ 1000; rw [List.length_singleton]; omega)
theorem ok_number_of35 (T : Txt K mg) : Has P w K mg base 88 "number_of" ["grammar", "tree"] no35S := by
  refine Has.ofX (k := 87) T.f_number_of sc_number_of (fun A Q R ⟨g, t, fl, e, _⟩ => by rw [e]; rfl) fun f cdv A outer s0 H E hr Γ Q R ⟨g, t, fl, e, hd, hg, hf, hq⟩ => ?_
  subst e
  refine st_set 2 (x := some fl) (ev_call (ok_tree_fault T) (hr.mono (by decide)) (ea_cons (x := g) (ev_var 0) (ea_cons (x := t) (ev_var 1) ea_nil)) fun P' R' h => ⟨g, t, rfl, hd, hg.rs, by rw [hf]; exact h⟩) ?_ sc_number_of.nd
  refine st_if (k := true) (et_cmp (o_notO (α := Flt) (x := some fl)) (ev_var 2) ev_non) (fun _ => ?_) (fun h => nomatch h)
  exact st_raise1 T.x_NoTree (init_NoTree T) (hr.mono (by decide)) (ev_un (x := fl) (ev_var 2)) hq
theorem ok_law_why (T : Txt K mg) : Has P w K mg base 89 "_law_why" ["_law_grammar_here", "_law_tree"] why35S := by
  refine Has.of T.f_law_why sc_law_why (fun A Q R ⟨g, t, fl, e, _⟩ => by rw [e]; rfl) fun f cdv A outer s0 H E hr Γ Q R ⟨g, t, fl, e, hd, hg, hf, hq⟩ => ?_
  subst e
  refine st_set 2 ev_non ?_ sc_law_why.nd
  refine st_try 3 sc_law_why.nd T.x_QuiltError fun pn xe hpass => ?_
  refine st_dropR (R := fun y => y = NoTree fl) (exx_call (ok_number_of35 T) (hr.mono (by decide)) (ea_cons (x := g) (ev_var 0) (ea_cons (x := t) (ev_var 1) ea_nil)) fun P' R' _ h => ⟨g, t, fl, rfl, hd, hg, hf, h _ rfl⟩) (fun y e => ?_)
  subst e
  refine .inl ⟨T.s_NoTree_QuiltError, fun a pn => ?_⟩
  refine st_set 2 (x := ErrW.mk "NoTree" "why" fl) (ev_var 3) (st_nil ?_) sc_law_why.nd
  refine st_if (k := false) (et_eq (et_or (et_not (et_val (ev_isiE (α := ErrW Flt) (x := ErrW.mk "NoTree" "why" fl) T.b_isinstance T.x_NoTree T.x_NoTree T.s_NoTree_NoTree (ev_var 2)))) fun _ => et_val (ev_isiE (α := ErrW Flt) (x := ErrW.mk "NoTree" "why" fl) T.b_isinstance T.x_NoTree T.x_NoNumber T.s_NoTree_NoNumber (ev_var 2))) rfl) (fun h => nomatch h) (fun _ => st_nil ?_)
  exact st_retV (ev_errW (α := Flt) (x := ErrW.mk "NoTree" "why" fl) T.x_NoTree (Dx.fld T.i_NoTree) (ev_var 2)) hq
end
theorem pigeon35 {names xs : List Tx} (h : names.length < xs.length) (hn : xs.Nodup) : ∃ x, (xs.filter fun x => !decide (x ∈ names))[0]? = some x ∧ x ∉ names := by
  cases e : xs.filter fun x => !decide (x ∈ names) with
  | nil =>
    exfalso
    have : ∀ x ∈ xs, x ∈ names := fun x hx => by
      have := List.filter_eq_nil_iff.mp e x hx
      simpa using this
    have := nodup_le4 hn this
    omega
  | cons x l =>
    refine ⟨x, rfl, ?_⟩
    have hm : x ∈ xs.filter fun x => !decide (x ∈ names) := by rw [e]; exact List.mem_cons_self ..
    have := (List.mem_filter.mp hm).2
    simpa using this
theorem flt_okD {w : Flt} (h : TxOk w.1) (hl : True) : ((isdPair (α := Tx) (β := Tup Int)).d w).Shp := by
  refine ⟨?_, ?_⟩
  · show (Dy.t [Dy.s w.1, Dy.t (w.2.l.map Dy.i)]).okc
    rw [Dy.okc, Dy.okcs, Dy.okcs, Dy.okcs]
    refine ⟨by rw [Dy.okc]; exact h, ?_, trivial⟩
    rw [Dy.okc, Dy.okcs_iff]
    intro x hx
    obtain ⟨y, _, rfl⟩ := List.mem_map.mp hx
    rw [Dy.okc]; trivial
  · show (Dy.t [Dy.s w.1, Dy.t (w.2.l.map Dy.i)]).dep ≤ _
    rw [Dy.dep, Dy.deps, Dy.deps, Dy.deps, Dy.dep, Dy.dep]
    have : Dy.deps (w.2.l.map Dy.i) ≤ 0 := Dy.deps_le fun x hx => by
      obtain ⟨y, _, rfl⟩ := List.mem_map.mp hx
      rw [Dy.dep]; exact Nat.le_refl _
    omega
section
variable {P : Program} {w : World} {K : PySem.W.Frag} {mg : Str → Option Value} {base : Heap}
theorem body_law (T : Txt K mg) : BodyOk P w K mg base 139 "law" s_law N_law ["_law_script"] lawS := by
  intro f cdv A outer s0 H E hr Γ Q R ⟨s, e, hs, hq⟩
  subst e
  refine st_setEx 1 (i := repList) (G := fun ns : List Tx => ns.length = 4 ∧ ∀ n ∈ ns, isName n = true) (exv_of_exn (ex_call (ok_law_names T) (hr.mono (by decide)) (ea_cons (x := lawCell s.l 1) (ev_call (ok_law_cell T) (hr.mono (by decide)) (ea_cons (ev_var 0) (ea_cons (x := (1 : Int)) ev_int ea_nil)) fun P R h => ⟨s, 1, rfl, hs, by decide, h⟩) ea_nil) fun P' R' h => ⟨_, rfl, fun ns h1 h2 => h _ ⟨ns, ⟨h1, h2⟩, rfl⟩⟩)) (fun names hnn => ?_) sc_law.nd
  obtain ⟨hn4, hnm⟩ := hnn
  refine st_setEx 2 (α := DrnQ) (G := fun d => (DrnOk d ∧ d.limit = 9) ∧ d.names = names) (ex_tup2E (i := repTx) (j := repList) (G1 := fun x : Tx => signsOk x = true) (G2 := fun ns : List Tx => ns = names) (ex_call (ok_law_signs T) (hr.mono (by decide)) (ea_cons (x := lawCell s.l 0) (ev_call (ok_law_cell T) (hr.mono (by decide)) (ea_cons (ev_var 0) (ea_cons (x := (0 : Int)) ev_int ea_nil)) fun P R h => ⟨s, 0, rfl, hs, by decide, h⟩) (ea_cons (x := (4 : Int)) ev_int ea_nil)) fun P' R' h => ⟨_, 4, rfl, by decide, by decide, fun x hx => h _ ⟨x, hx, rfl⟩⟩)
    (ex_of_ev (x := names) (ev_var 1) ⟨names, rfl, rfl⟩) (ea_cons (x := (2 : Int)) ev_int (ea_cons (x := (3 : Int)) ev_int (ea_cons (x := (9 : Int)) ev_int ea_nil))) fun x y hx hy => ⟨⟨x, y, 2, 3, 9⟩, ⟨⟨⟨hx, by rw [hy]; exact hn4, by rw [hy]; exact hnm, ⟨by show (1 : Int) ≤ 2; decide, by show (2 : Int) ≤ 9; decide⟩, by show (3 : Int) ≤ 6; decide, by show (9 : Int) ≤ 9; decide, by show (9 : Int) ≤ 16; decide⟩, rfl⟩, hy⟩, rfl⟩) (fun d hd => ?_) sc_law.nd
  obtain ⟨⟨hd, h9⟩, hdn⟩ := hd
  obtain ⟨hsg, _, _, _, _, _⟩ := id hd
  have hcl := cellsL_len (s := s.l) (b := 5) (m := 12) (by decide)
  have hcl1 : 1 ≤ (cellsL s.l 5 12).length := by
    have h1 := Int.emod_nonneg (lawCell s.l 62) (by decide : (12 : Int) ≠ 0)
    have h2 := Int.emod_lt_of_pos (lawCell s.l 62) (by decide : (0 : Int) < 12)
    unfold cellsL
    rw [List.length_map, rng_len]
    omega
  have h12 : (12 : Int).toNat = 12 := rfl
  refine st_unpackP 3 4 (i := repRowQ) (j := repStk4) (G := fun rules stock => GrownQ d.names d.signs d.limit rules stock ∧ rules.length ≤ 12 ∧ stock.length ≤ 12 ∧ 0 < stock.length) (by decide) (ex_call (P := fun r => r = .own fun o => ∃ ad l m rules stock, (GrownQ d.names d.signs d.limit rules stock ∧ rules.length ≤ (cellsL s.l 5 12).length ∧ stock.length ≤ (cellsL s.l 5 12).length ∧ 0 < stock.length) ∧ o = ownP repRowQ repStk4 ad l m rules stock) (ok_law_grown T) (hr.mono (by decide)) (ea_cons (x := cellsL s.l 5 12) (ev_of_en (en_call (ok_law_cells T) (hr.mono (by decide)) (ea_cons (ev_var 0) (ea_cons (x := (5 : Int)) ev_int (ea_cons (x := (12 : Int)) ev_int ea_nil))) fun P' R' h => ⟨s, 5, 12, rfl, hs, by decide, by decide, by decide, by decide, h⟩)) (ea_cons (x := d) (ev_var 2) ea_nil)) fun P' R' h => ⟨cellsL s.l 5 12, d, rfl, hd, hcl1, by omega, h _ rfl⟩)
    (fun o ⟨ad, l, m, rules, stock, ⟨h1, h2, h3, h4⟩, e⟩ => ⟨ad, l, m, rules, stock, ⟨h1, by omega, by omega, h4⟩, e⟩) (fun l5 l6 rules stock hGr => ?_) (pg2 3 4 (pgn 3 sc_law.nd) (pgn 4 sc_law.nd))
  obtain ⟨hG, hrl, hsl, hs0⟩ := hGr
  rw [hdn] at hG
  refine st_freeze 3 frozL ?_
  refine st_freeze 4 frozL ?_
  obtain ⟨n0, hn0, hm0⟩ := list_atI (xs := names) (n := 0) (by decide) (by omega)
  have hsln := signsOk_len hsg
  have hnl0 := isName_len (hnm n0 hm0)
  have hgood : ∀ q ∈ rules, q.r.good = true := fun q hq' => (hG.rs q hq').good
  have hgoodr : ∀ r ∈ rules.map RowQ.r, r.good = true := fun r hr' => by obtain ⟨q, hq', rfl⟩ := List.mem_map.mp hr'; exact hgood q hq'
  have hwhy : whyG d.signs n0 (rules.map RowQ.r) = none := why_drawn (names := names) hsg (hnm n0 hm0) hm0 (by omega) (by rw [List.length_map]; omega) fun r hr' => by
    obtain ⟨q, hq', rfl⟩ := List.mem_map.mp hr'
    exact ⟨(hG.rs q hq').of, (hG.rs q hq').nm⟩
  refine st_set 5 (x := mkG d.signs n0 (rules.map RowQ.r)) (ev_call (ok_law_grammar T) (hr.mono (by decide)) (ea_cons (x := d.signs) (ev_ixX (x := d) (n := 0) (k := 0) (ev_var 2) ev_int rfl rfl) (ea_cons (x := n0) (ev_ixL (xs := names) (ev_var 1) ev_int hn0) (ea_cons (x := rules) (ev_var 3) ea_nil))) fun P' R' h => ⟨d.signs, n0, rules, rfl, by omega, hnl0, by omega, hgood, hwhy, h⟩) ?_ sc_law.nd
  have hg0 : (mkG d.signs n0 (rules.map RowQ.r)).Made := GramD.Made.mk' hgoodr hwhy
  have e0 : (mkG d.signs n0 (rules.map RowQ.r)).rules = rules.map RowQ.r := rfl
  have hgs : ∀ n ∈ (mkG d.signs n0 (rules.map RowQ.r)).names, n ∈ names := fun n hn => by
    rcases metAll_mem.mp hn with z | ⟨r, hr', z⟩
    · rw [List.mem_singleton.mp z]; exact hm0
    · obtain ⟨q, hq', rfl⟩ := List.mem_map.mp hr'
      exact (hG.rs q hq').nm n z
  generalize mkG d.signs n0 (rules.map RowQ.r) = g0 at hg0 e0 hgs
  have p0 : (0 : Int) < 10 ^ (30 : Int).toNat := by decide
  refine st_set 6 (x := lawCell s.l 3 / 4 % 10 ^ (30 : Int).toNat) (ev_bin (o_mod p0) (ev_bin (o_div divK) (ev_call (x := lawCell s.l 3) (ok_law_cell T) (hr.mono (by decide)) (ea_cons (ev_var 0) (ea_cons (x := (3 : Int)) ev_int ea_nil)) fun P R h => ⟨s, 3, rfl, hs, by decide, h⟩) ev_int) (ev_pow pow30 ev_int ev_int)) ?_ sc_law.nd
  have hfar := Int.emod_nonneg (lawCell s.l 3 / 4) (Int.ne_of_gt p0)
  generalize lawCell s.l 3 / 4 % 10 ^ (30 : Int).toNat = far at hfar
  obtain ⟨zn, hz, hzn⟩ := pigeon35 (names := names) (xs := [tx "Q", tx "QQ", tx "QQQ", tx "QQQQ", tx "ZQ"]) (by rw [hn4]; decide) (by decide +kernel)
  have hzg : zn ∉ g0.names := fun h => hzn (hgs zn h)
  refine st_set 7 (x := zn) (ev_ixL (xs := (([tx "Q", tx "QQ", tx "QQQ", tx "QQQQ", tx "ZQ"] : List Tx).filter fun x => !decide (x ∈ names)).map fun x => x) (ev_of_en (en_lcIf (α := Tx) (β := Tx) (own := [("_law_one", 8)]) (f := fun x => x) (q := fun x => !decide (x ∈ names)) (src_list (xs := [tx "Q", tx "QQ", tx "QQQ", tx "QQQQ", tx "ZQ"]) (ev_of_en (en_lst (es_cons (ev_str "Q") (es_cons (ev_str "QQ") (es_cons (ev_str "QQQ") (es_cons (ev_str "QQQQ") (es_cons (ev_str "ZQ") es_nil)))))))) (tg_name 8) (fun _ _ _ _ _ => pgn 8 sc_law.nd) (fun x hx _ _ _ _ _ => et_cmp o_notInLS (ev_var 8) (ev_var 1)) (fun x hx _ _ _ _ _ _ => ev_var 8) sc_law.nd (ok := bk_law (by decide +kernel)) (hz := sl_small (by decide)))) ev_int (by rw [List.map_id']; exact atI_nat (j := 0) hz)) ?_ sc_law.nd
  have b1 : BoxS ⟨1, 1, 1⟩ := ⟨by decide, by decide, by decide, by decide, by decide, by decide⟩
  have shp1 : ∀ {X : Cx}, True := trivial
  refine st_if (k := false) (et_eq (et_not (et_val (ev_call (x := true) (ok_law_no_name T) (hr.mono (by decide)) (ea_cons (x := some (⟨"NoName"⟩ : Err)) (ev_call (ok_law_error T) (hr.mono (by decide)) (ea_cons (x := g0) (ev_var 5) (ea_cons (x := Shp4.mk zn 1 1 1) (ev_tupX (ea_cons (x := zn) (ev_var 7) (ea_cons (x := (1 : Int)) ev_int (ea_cons (x := (1 : Int)) ev_int (ea_cons (x := (1 : Int)) ev_int ea_nil))))) (ea_cons (x := some (-1 - far)) (ev_some (ev_bin o_sub (ev_neg ev_int) (ev_var 6))) ea_nil))) fun P' R' h => ⟨g0, ⟨zn, 1, 1, 1⟩, some (-1 - far), rfl, hg0, b1, by show (1 : Int) ≤ 6; decide, by show (1 : Int) ≤ 6; decide, fun _ => h, fun z => absurd z hzg⟩) ea_nil) fun P' R' h => ⟨_, rfl, rfl, h⟩))) rfl) (fun h => nomatch h) (fun _ => st_nil ?_)
  refine st_if (k := false) (et_eq (et_not (et_val (ev_call (x := true) (ok_law_no_name T) (hr.mono (by decide)) (ea_cons (x := some (⟨"NoName"⟩ : Err)) (ev_call (ok_law_error T) (hr.mono (by decide)) (ea_cons (x := g0) (ev_var 5) (ea_cons (x := Shp4.mk zn 1 1 1) (ev_tupX (ea_cons (x := zn) (ev_var 7) (ea_cons (x := (1 : Int)) ev_int (ea_cons (x := (1 : Int)) ev_int (ea_cons (x := (1 : Int)) ev_int ea_nil))))) (ea_cons (i := @repOpt Int repInt) (x := (none : Option Int)) (ev_nonO (i := repInt)) ea_nil))) fun P' R' h => ⟨g0, ⟨zn, 1, 1, 1⟩, none, rfl, hg0, b1, by show (1 : Int) ≤ 6; decide, by show (1 : Int) ≤ 6; decide, fun _ => h, fun z => absurd z hzg⟩) ea_nil) fun P' R' h => ⟨_, rfl, rfl, h⟩))) rfl) (fun h => nomatch h) (fun _ => st_nil ?_)
  obtain ⟨q, hqa, hqm⟩ := list_atI (xs := stock) (Int.emod_nonneg (lawCell s.l 2) (by omega : (stock.length : Int) ≠ 0)) (Int.emod_lt_of_pos (lawCell s.l 2) (by omega : (0 : Int) < stock.length))
  have hq4 := hG.st q hqm
  refine st_set 8 (x := q) (ev_ixL (xs := stock) (ev_var 4) (ev_bin (o_mod (y := (stock.length : Int)) (by omega)) (ev_call (x := lawCell s.l 2) (ok_law_cell T) (hr.mono (by decide)) (ea_cons (ev_var 0) (ea_cons (x := (2 : Int)) ev_int ea_nil)) fun P R h => ⟨s, 2, rfl, hs, by decide, h⟩) (ev_len T.b_len (ev_var (x := stock) 4))) hqa) ?_ sc_law.nd
  have hcosts := made_cost hg0
  obtain ⟨b1', b2', b3'⟩ := hq4.gt.ok.sizes (by rw [← e0]; exact hcosts)
  have hc9 : q.c ≤ 9 := by have := hq4.c16; omega
  obtain ⟨z0, hz0⟩ := hq4.gt.num hgoodr 16 (by omega)
  have hgd := hq4.gt.ok.gd
  rw [← e0] at hz0 hgoodr hgd
  obtain ⟨zl, zu⟩ := GNd.bd hcosts 16 q z0 hz0
  have hqn := GNd.nm hg0 hz0
  have hbox := hz0.ok.box hcosts (by omega)
  obtain ⟨r, c, hp⟩ := hq4.pin
  have hsh := shp_pk hp
  obtain ⟨hp0, hp1⟩ := hp.head
  have hr6 := hp.r6
  have hc6 := hp.c6
  obtain ⟨y1, y2, y3, y4, y5, y6⟩ := id hbox
  have hsr : (shpOf q).r = (r : Int) := congrArg Sz3.r hsh
  have hsc : (shpOf q).c = (c : Int) := congrArg Sz3.c hsh
  refine st_set 9 (x := Shp4.mk q.n (shpOf q).r (shpOf q).c (shpOf q).k) (ev_tupX (ea_cons (x := q.n) (ev_4n (q := q) (ev_var 8) ev_int) (ea_cons (x := (shpOf q).r) (ev_len T.b_len (ev_4p (q := q) (ev_var 8) ev_int)) (ea_cons (x := (shpOf q).c) (ev_lenS T.b_len (ev_ixL (xs := q.p) (ev_4p (q := q) (ev_var 8) ev_int) ev_int hp0) (sl6 (by omega))) (ea_cons (x := (shpOf q).k) (ev_4c (q := q) (ev_var 8) ev_int) ea_nil))))) ?_ sc_law.nd
  refine st_set 10 (x := cntT g0.rules q.n (shpOf q).r (shpOf q).c (shpOf q).k) (ev_call (ok_count_trees T 16) (hr.mono (by decide)) (ea_cons (x := g0) (ev_var 5) (ea_cons (x := q.n) (ev_ixX (x := Shp4.mk q.n (shpOf q).r (shpOf q).c (shpOf q).k) (n := 0) (k := 0) (ev_var 9) ev_int rfl rfl) (ea_cons (x := (shpOf q).r) (ev_ixX (x := Shp4.mk q.n (shpOf q).r (shpOf q).c (shpOf q).k) (n := 1) (k := 1) (ev_var 9) ev_int rfl rfl) (ea_cons (x := (shpOf q).c) (ev_ixX (x := Shp4.mk q.n (shpOf q).r (shpOf q).c (shpOf q).k) (n := 2) (k := 2) (ev_var 9) ev_int rfl rfl) (ea_cons (x := (shpOf q).k) (ev_ixX (x := Shp4.mk q.n (shpOf q).r (shpOf q).c (shpOf q).k) (n := 3) (k := 3) (ev_var 9) ev_int rfl rfl) ea_nil))))) fun P' R' h => ⟨g0, q.n, (shpOf q).r, (shpOf q).c, (shpOf q).k, rfl, hg0, y1, y2, y3, y4, y5, by omega, by omega, fun _ => h, fun z => absurd hqn z⟩) ?_ sc_law.nd
  generalize hct : cntT g0.rules q.n (shpOf q).r (shpOf q).c (shpOf q).k = ct at zu
  obtain ⟨far2, hfa, hfm⟩ := list_atI (xs := [ct, ct + far, -1, -1 - far]) (n := lawCell s.l 3 % 4) (Int.emod_nonneg _ (by decide)) (by have := Int.emod_lt_of_pos (lawCell s.l 3) (by decide : (0 : Int) < 4); show _ < ((4 : Nat) : Int); omega)
  have hfr : far2 < 0 ∨ ct ≤ far2 := by
    simp only [List.mem_cons, List.not_mem_nil, or_false] at hfm
    omega
  refine st_set 7 (x := far2) (ev_ixL (xs := [ct, ct + far, -1, -1 - far]) (ev_of_en (en_lst (es_cons (ev_var 10) (es_cons (ev_bin o_add (ev_var 10) (ev_var 6)) (es_cons (ev_neg ev_int) (es_cons (ev_bin o_sub (ev_neg ev_int) (ev_var 6)) es_nil)))))) (ev_bin (o_mod (by decide)) (ev_call (x := lawCell s.l 3) (ok_law_cell T) (hr.mono (by decide)) (ea_cons (ev_var 0) (ea_cons (x := (3 : Int)) ev_int ea_nil)) fun P R h => ⟨s, 3, rfl, hs, by decide, h⟩) ev_int) hfa) ?_ sc_law.nd
  refine st_if (k := false) (et_eq (et_or (et_not (et_val (ev_call (x := true) (ok_law_no_number T) (hr.mono (by decide)) (ea_cons (x := some (⟨"NoNumber"⟩ : Err)) (ev_call (ok_law_error T) (hr.mono (by decide)) (ea_cons (x := g0) (ev_var 5) (ea_cons (x := Shp4.mk q.n (shpOf q).r (shpOf q).c (shpOf q).k) (ev_var 9) (ea_cons (x := some far2) (ev_some (ev_var 7)) ea_nil))) fun P' R' h => ⟨g0, ⟨q.n, (shpOf q).r, (shpOf q).c, (shpOf q).k⟩, some far2, rfl, hg0, hbox, by show (shpOf q).r ≤ 6; omega, by show (shpOf q).c ≤ 6; omega, fun z => absurd hqn z, fun _ => ⟨far2, rfl, fun _ => h, fun h1 h2 => (by exfalso; have h2 : far2 < cntT g0.rules q.n (shpOf q).r (shpOf q).c (shpOf q).k := h2; omega)⟩⟩) ea_nil) fun P' R' h => ⟨_, rfl, rfl, h⟩))) fun _ => et_cmp (o_notO (α := Err) (x := none)) (ev_call (x := (none : Option Err)) (ok_law_error T) (hr.mono (by decide)) (ea_cons (x := g0) (ev_var 5) (ea_cons (x := Shp4.mk q.n (shpOf q).r (shpOf q).c (shpOf q).k) (ev_var 9) (ea_cons (x := some (ct - 1)) (ev_some (ev_bin o_sub (ev_var 10) ev_int)) ea_nil))) fun P' R' h => ⟨g0, ⟨q.n, (shpOf q).r, (shpOf q).c, (shpOf q).k⟩, some (ct - 1), rfl, hg0, hbox, by show (shpOf q).r ≤ 6; omega, by show (shpOf q).c ≤ 6; omega, fun z => absurd hqn z, fun _ => ⟨ct - 1, rfl, fun h' => (by exfalso; have h' : ct - 1 < 0 ∨ cntT g0.rules q.n (shpOf q).r (shpOf q).c (shpOf q).k ≤ ct - 1 := h'; omega), fun _ _ => h⟩⟩) ev_non) rfl) (fun h => nomatch h) (fun _ => st_nil ?_)
  have hlen : (rules.length : Int) = (g0.rules.length : Int) := by rw [e0, List.length_map]
  have hnf : nf g0.rules q.t [] none = none := hgd.no []
  refine st_setEx 11 (α := Tr × Flt) (G := fun x => Spoilt g0.rules q.t x.1 x.2) (ex_call (ok_law_spoilt_within T 16) (hr.mono (by decide)) (ea_cons (x := q.t) (ev_4t (q := q) (ev_var 8) ev_int) (ea_cons (x := lawCell s.l 4) (ev_call (ok_law_cell T) (hr.mono (by decide)) (ea_cons (ev_var 0) (ea_cons (x := (4 : Int)) ev_int ea_nil)) fun P R h => ⟨s, 4, rfl, hs, by decide, h⟩) (ea_cons (x := (g0.rules.length : Int)) (ev_eq (ev_len T.b_len (ev_var (x := rules) 3)) hlen) ea_nil))) fun P' R' h => ⟨g0.rules, q.t, lawCell s.l 4, rfl, by omega, by decide, ⟨[], none, hnf⟩, fun t' w hw => h _ ⟨(t', w), hw, rfl⟩⟩) (fun x hx => ?_) sc_law.nd
  have hft := hx.ft [] none hnf
  have hfault : faultOf g0.rules x.1 = some x.2 := by
    unfold faultOf
    rw [hft]
    rfl
  have hxd := hx.dp
  have hxw : TxOk x.2.1 := hx.ok
  have sh := flt_okD hxw trivial
  exact st_retV (ev_eq (y := true) (ev_and2 (ev_cmp (o_eqY (x := x.2) (y := x.2) (kb := true) hr sh sh (by simp)) (ev_call (x := x.2) (ok_law_why T) (hr.mono (by decide)) (ea_cons (x := g0) (ev_var 5) (ea_cons (x := x.1) (ev_fst (x := x) (ev_var 11)) ea_nil)) fun P' R' h => ⟨g0, x.1, x.2, rfl, by omega, hg0, hfault, h⟩) (ev_snd (x := x) (ev_var 11))) fun _ => ev_cmp o_lt (ev_call (x := z0) (ok_number_of T) (hr.mono (by decide)) (ea_cons (x := g0) (ev_var 5) (ea_cons (x := q.t) (ev_4t (q := q) (ev_var 8) ev_int) ea_nil)) fun P' R' h => ⟨g0, q, z0, rfl, hg0, hz0, by omega, h⟩) (ev_var 10)) (by rw [decide_eq_true zu]; rfl)) hq
end
theorem ar1 {P : List Value → Prop} (h : ∀ a0, P [a0]) (us : List Value) (hl : us.length = 1) : P us := match us, hl with | [a0], _ => h a0
theorem ar2 {P : List Value → Prop} (h : ∀ a0 a1, P [a0, a1]) (us : List Value) (hl : us.length = 2) : P us := match us, hl with | [a0, a1], _ => h a0 a1
theorem ar3 {P : List Value → Prop} (h : ∀ a0 a1 a2, P [a0, a1, a2]) (us : List Value) (hl : us.length = 3) : P us := match us, hl with | [a0, a1, a2], _ => h a0 a1 a2
theorem ar4 {P : List Value → Prop} (h : ∀ a0 a1 a2 a3, P [a0, a1, a2, a3]) (us : List Value) (hl : us.length = 4) : P us := match us, hl with | [a0, a1, a2, a3], _ => h a0 a1 a2 a3
theorem ar5 {P : List Value → Prop} (h : ∀ a0 a1 a2 a3 a4, P [a0, a1, a2, a3, a4]) (us : List Value) (hl : us.length = 5) : P us := match us, hl with | [a0, a1, a2, a3, a4], _ => h a0 a1 a2 a3 a4
theorem ar6 {P : List Value → Prop} (h : ∀ a0 a1 a2 a3 a4 a5, P [a0, a1, a2, a3, a4, a5]) (us : List Value) (hl : us.length = 6) : P us := match us, hl with | [a0, a1, a2, a3, a4, a5], _ => h a0 a1 a2 a3 a4 a5
theorem df_of {K : PySem.W.Frag} {h : Heap} {mg : Str → Option Value} {n : Str} {st : Stmt} {ps : List Str} {f : Addr} {oc : Value} {od an : Option Addr} {osl : Array (Option Value)} {kV doc pm cdv ct : Value} (X : K.In h) (G : h.Ns mainGlobals mg) (a : PySem.W.nsIn K mainGlobals n = some (some (.ref f))) (l : K.lookup f = some ⟨oc, od, .func (PySem.W.fnOf n n (defArgs st) (defBody st) (defScope st) .none kV doc pm an cdv ct), osl⟩)
    (c : PySem.W.codeIn K cdv n = true) (k : PySem.W.keepIn K (.ref f) = true)
    (hb : ∀ (kV doc pm : Value) (an : Option Addr) (cdv ct : Value) (us : List Value), us.length = ps.length → bindArgs (PySem.W.fnOf n n (defArgs st) (defBody st) (defScope st) .none kV doc pm an cdv ct) ⟨us, []⟩ = pure (ps.zip us)) : Df K mg n st ps :=
  ⟨f, _, fun_mk l c k, (fun_mk (st := st) l c k).binds hb, PySem.W.mg_of X G a⟩
theorem txt_mk {K : PySem.W.Frag} {h : Heap} {mg : Str → Option Value} (X : K.In h) (G : h.Ns mainGlobals mg)
    (zb_ValueError : PySem.W.nsIn K mainGlobals "ValueError" = some none)
    (zb_all : PySem.W.nsIn K mainGlobals "all" = some none)
    (zb_enumerate : PySem.W.nsIn K mainGlobals "enumerate" = some none)
    (zb_int : PySem.W.nsIn K mainGlobals "int" = some none)
    (zb_isinstance : PySem.W.nsIn K mainGlobals "isinstance" = some none)
    (zb_len : PySem.W.nsIn K mainGlobals "len" = some none)
    (zb_list : PySem.W.nsIn K mainGlobals "list" = some none)
    (zb_range : PySem.W.nsIn K mainGlobals "range" = some none)
    (zb_reversed : PySem.W.nsIn K mainGlobals "reversed" = some none)
    (zb_set : PySem.W.nsIn K mainGlobals "set" = some none)
    (zb_sum : PySem.W.nsIn K mainGlobals "sum" = some none)
    (zb_tuple : PySem.W.nsIn K mainGlobals "tuple" = some none)
    (zb_zip : PySem.W.nsIn K mainGlobals "zip" = some none)
    {t_MOST : Tok} (zc_MOST : PySem.W.nsIn K mainGlobals "MOST" = some (some (.int 6 t_MOST)))
    {t_MIRROR : Tok} (zc_MIRROR : PySem.W.nsIn K mainGlobals "MIRROR" = some (some (.int 4 t_MIRROR)))
    {t_CAPITALS : Tok} (zc_CAPITALS : PySem.W.nsIn K mainGlobals "CAPITALS" = some (some (.str (Str.ofString "ABCDEFGHIJKLMNOPQRSTUVWXYZ") t_CAPITALS)))
    {t_SMALL : Tok} (zc_SMALL : PySem.W.nsIn K mainGlobals "SMALL" = some (some (.str (Str.ofString "abcdefghijklmnopqrstuvwxyz") t_SMALL)))
    {t_MOST_LETTERS : Tok} (zc_MOST_LETTERS : PySem.W.nsIn K mainGlobals "MOST_LETTERS" = some (some (.int 4 t_MOST_LETTERS)))
    {t_MOST_COST : Tok} (zc_MOST_COST : PySem.W.nsIn K mainGlobals "MOST_COST" = some (some (.int 9 t_MOST_COST)))
    {t_MOST_SIGNS : Tok} (zc_MOST_SIGNS : PySem.W.nsIn K mainGlobals "MOST_SIGNS" = some (some (.int 4 t_MOST_SIGNS)))
    {t_MOST_RULES : Tok} (zc_MOST_RULES : PySem.W.nsIn K mainGlobals "MOST_RULES" = some (some (.int 24 t_MOST_RULES)))
    {t_MOST_NAMES : Tok} (zc_MOST_NAMES : PySem.W.nsIn K mainGlobals "MOST_NAMES" = some (some (.int 8 t_MOST_NAMES)))
    (xn : PySem.W.specialIn K (.builtin "object.__class__") "__get__" = some (some (.builtin "getset_descriptor.__get__")))
    (xq : PySem.W.takesIn K (.builtin "object.__class__") = some true)
    {C_QuiltError : Addr}
    (xa_QuiltError : PySem.W.nsIn K mainGlobals "QuiltError" = some (some (.ref C_QuiltError)))
    (xk_QuiltError : PySem.W.keepIn K (.ref C_QuiltError) = true)
    (xt_QuiltError : PySem.W.typeIn K (.ref C_QuiltError) = some (.type "type"))
    (xg_QuiltError : PySem.W.findIn K (.ref C_QuiltError) "__getattribute__" = some (some (.builtin "BaseException.__getattribute__")))
    (xh_QuiltError : PySem.W.findIn K (.ref C_QuiltError) "__getattr__" = some none)
    (xs_QuiltError : PySem.W.subIn K (.ref C_QuiltError) (.type "BaseException") = some true)
    (xd_QuiltError : PySem.W.hasDictIn K C_QuiltError = true)
    (xc_QuiltError : PySem.W.findIn K (.ref C_QuiltError) "__class__" = some (some (.builtin "object.__class__")))
    (xm_QuiltError : PySem.W.mroIn K C_QuiltError (.type "object") = some true)
    {C_NoFit : Addr}
    (xa_NoFit : PySem.W.nsIn K mainGlobals "NoFit" = some (some (.ref C_NoFit)))
    (xk_NoFit : PySem.W.keepIn K (.ref C_NoFit) = true)
    (xt_NoFit : PySem.W.typeIn K (.ref C_NoFit) = some (.type "type"))
    (xg_NoFit : PySem.W.findIn K (.ref C_NoFit) "__getattribute__" = some (some (.builtin "BaseException.__getattribute__")))
    (xh_NoFit : PySem.W.findIn K (.ref C_NoFit) "__getattr__" = some none)
    (xs_NoFit : PySem.W.subIn K (.ref C_NoFit) (.type "BaseException") = some true)
    (xd_NoFit : PySem.W.hasDictIn K C_NoFit = true)
    (xc_NoFit : PySem.W.findIn K (.ref C_NoFit) "__class__" = some (some (.builtin "object.__class__")))
    (xm_NoFit : PySem.W.mroIn K C_NoFit (.type "object") = some true)
    {C_NoRule : Addr}
    (xa_NoRule : PySem.W.nsIn K mainGlobals "NoRule" = some (some (.ref C_NoRule)))
    (xk_NoRule : PySem.W.keepIn K (.ref C_NoRule) = true)
    (xt_NoRule : PySem.W.typeIn K (.ref C_NoRule) = some (.type "type"))
    (xg_NoRule : PySem.W.findIn K (.ref C_NoRule) "__getattribute__" = some (some (.builtin "BaseException.__getattribute__")))
    (xh_NoRule : PySem.W.findIn K (.ref C_NoRule) "__getattr__" = some none)
    (xs_NoRule : PySem.W.subIn K (.ref C_NoRule) (.type "BaseException") = some true)
    (xd_NoRule : PySem.W.hasDictIn K C_NoRule = true)
    (xc_NoRule : PySem.W.findIn K (.ref C_NoRule) "__class__" = some (some (.builtin "object.__class__")))
    (xm_NoRule : PySem.W.mroIn K C_NoRule (.type "object") = some true)
    {C_NoGrammar : Addr}
    (xa_NoGrammar : PySem.W.nsIn K mainGlobals "NoGrammar" = some (some (.ref C_NoGrammar)))
    (xk_NoGrammar : PySem.W.keepIn K (.ref C_NoGrammar) = true)
    (xt_NoGrammar : PySem.W.typeIn K (.ref C_NoGrammar) = some (.type "type"))
    (xg_NoGrammar : PySem.W.findIn K (.ref C_NoGrammar) "__getattribute__" = some (some (.builtin "BaseException.__getattribute__")))
    (xh_NoGrammar : PySem.W.findIn K (.ref C_NoGrammar) "__getattr__" = some none)
    (xs_NoGrammar : PySem.W.subIn K (.ref C_NoGrammar) (.type "BaseException") = some true)
    (xd_NoGrammar : PySem.W.hasDictIn K C_NoGrammar = true)
    (xc_NoGrammar : PySem.W.findIn K (.ref C_NoGrammar) "__class__" = some (some (.builtin "object.__class__")))
    (xm_NoGrammar : PySem.W.mroIn K C_NoGrammar (.type "object") = some true)
    {C_NoTree : Addr}
    (xa_NoTree : PySem.W.nsIn K mainGlobals "NoTree" = some (some (.ref C_NoTree)))
    (xk_NoTree : PySem.W.keepIn K (.ref C_NoTree) = true)
    (xt_NoTree : PySem.W.typeIn K (.ref C_NoTree) = some (.type "type"))
    (xg_NoTree : PySem.W.findIn K (.ref C_NoTree) "__getattribute__" = some (some (.builtin "BaseException.__getattribute__")))
    (xh_NoTree : PySem.W.findIn K (.ref C_NoTree) "__getattr__" = some none)
    (xs_NoTree : PySem.W.subIn K (.ref C_NoTree) (.type "BaseException") = some true)
    (xd_NoTree : PySem.W.hasDictIn K C_NoTree = true)
    (xc_NoTree : PySem.W.findIn K (.ref C_NoTree) "__class__" = some (some (.builtin "object.__class__")))
    (xm_NoTree : PySem.W.mroIn K C_NoTree (.type "object") = some true)
    {C_NoName : Addr}
    (xa_NoName : PySem.W.nsIn K mainGlobals "NoName" = some (some (.ref C_NoName)))
    (xk_NoName : PySem.W.keepIn K (.ref C_NoName) = true)
    (xt_NoName : PySem.W.typeIn K (.ref C_NoName) = some (.type "type"))
    (xg_NoName : PySem.W.findIn K (.ref C_NoName) "__getattribute__" = some (some (.builtin "BaseException.__getattribute__")))
    (xh_NoName : PySem.W.findIn K (.ref C_NoName) "__getattr__" = some none)
    (xs_NoName : PySem.W.subIn K (.ref C_NoName) (.type "BaseException") = some true)
    (xd_NoName : PySem.W.hasDictIn K C_NoName = true)
    (xc_NoName : PySem.W.findIn K (.ref C_NoName) "__class__" = some (some (.builtin "object.__class__")))
    (xm_NoName : PySem.W.mroIn K C_NoName (.type "object") = some true)
    {C_TooMany : Addr}
    (xa_TooMany : PySem.W.nsIn K mainGlobals "TooMany" = some (some (.ref C_TooMany)))
    (xk_TooMany : PySem.W.keepIn K (.ref C_TooMany) = true)
    (xt_TooMany : PySem.W.typeIn K (.ref C_TooMany) = some (.type "type"))
    (xg_TooMany : PySem.W.findIn K (.ref C_TooMany) "__getattribute__" = some (some (.builtin "BaseException.__getattribute__")))
    (xh_TooMany : PySem.W.findIn K (.ref C_TooMany) "__getattr__" = some none)
    (xs_TooMany : PySem.W.subIn K (.ref C_TooMany) (.type "BaseException") = some true)
    (xd_TooMany : PySem.W.hasDictIn K C_TooMany = true)
    (xc_TooMany : PySem.W.findIn K (.ref C_TooMany) "__class__" = some (some (.builtin "object.__class__")))
    (xm_TooMany : PySem.W.mroIn K C_TooMany (.type "object") = some true)
    {C_NoNumber : Addr}
    (xa_NoNumber : PySem.W.nsIn K mainGlobals "NoNumber" = some (some (.ref C_NoNumber)))
    (xk_NoNumber : PySem.W.keepIn K (.ref C_NoNumber) = true)
    (xt_NoNumber : PySem.W.typeIn K (.ref C_NoNumber) = some (.type "type"))
    (xg_NoNumber : PySem.W.findIn K (.ref C_NoNumber) "__getattribute__" = some (some (.builtin "BaseException.__getattribute__")))
    (xh_NoNumber : PySem.W.findIn K (.ref C_NoNumber) "__getattr__" = some none)
    (xs_NoNumber : PySem.W.subIn K (.ref C_NoNumber) (.type "BaseException") = some true)
    (xd_NoNumber : PySem.W.hasDictIn K C_NoNumber = true)
    (xc_NoNumber : PySem.W.findIn K (.ref C_NoNumber) "__class__" = some (some (.builtin "object.__class__")))
    (xm_NoNumber : PySem.W.mroIn K C_NoNumber (.type "object") = some true)
    (xp_NoFit : PySem.W.excIn K C_NoFit [.type "ValueError", .type "Exception", .type "BaseException", .type "object"] "ValueError.__new__" = true)
    (xp_NoRule : PySem.W.excIn K C_NoRule [.type "ValueError", .type "Exception", .type "BaseException", .type "object"] "ValueError.__new__" = true)
    {nm_NoTree qn_NoTree : Str} {NN_NoTree fI_NoTree : Addr} {bs_NoTree bm_NoTree : List Value} {sn_NoTree : List Str} {su_NoTree : List Value} {ab_NoTree : Bool} {col_NoTree : _} {dd_NoTree : Option Addr} {k0_NoTree k1_NoTree k2_NoTree k3_NoTree k5_NoTree : Option Value}
    (xl_NoTree : K.lookup C_NoTree = some (excClassObj nm_NoTree qn_NoTree C_NoTree NN_NoTree bs_NoTree bm_NoTree true sn_NoTree su_NoTree ab_NoTree col_NoTree dd_NoTree k0_NoTree k1_NoTree k2_NoTree k3_NoTree k5_NoTree "ValueError.__new__"))
    (xv_NoTree : PySem.HandSPX.refsVE bm_NoTree = true)
    (xw_NoTree : PySem.W.findIn K (.ref C_NoTree) "__setattr__" = some (some (.builtin "object.__setattr__")))
    (xf_NoTree : PySem.W.findIn K (.ref C_NoTree) "why" = some none)
    (xi_NoTree : PySem.W.findIn K (.ref C_NoTree) "__init__" = some (some (.ref fI_NoTree)))
    (xj_NoTree : PySem.W.typeIn K (.ref fI_NoTree) = some (.type "function"))
    {od_iNoTree an_iNoTree : Option Addr} {sl_iNoTree : Array (Option Value)} {oc_iNoTree kV_iNoTree dc_iNoTree pm_iNoTree cd_iNoTree ct_iNoTree : Value}
    (xo_NoTree : K.lookup fI_NoTree = some ⟨oc_iNoTree, od_iNoTree, .func (PySem.W.fnOf "__init__" "NoTree.__init__" (defArgs s_NoTree_init) (defBody s_NoTree_init) (defScope s_NoTree_init) .none kV_iNoTree dc_iNoTree pm_iNoTree an_iNoTree cd_iNoTree ct_iNoTree), sl_iNoTree⟩)
    (xu_NoTree : PySem.W.codeIn K cd_iNoTree "NoTree.__init__" = true)
    (xz_NoTree : PySem.W.keepIn K (.ref fI_NoTree) = true)
    (xp_NoNumber : PySem.W.excIn K C_NoNumber [.type "ValueError", .type "Exception", .type "BaseException", .type "object"] "ValueError.__new__" = true)
    {nm_NoGrammar qn_NoGrammar : Str} {NN_NoGrammar fI_NoGrammar : Addr} {bs_NoGrammar bm_NoGrammar : List Value} {sn_NoGrammar : List Str} {su_NoGrammar : List Value} {ab_NoGrammar : Bool} {col_NoGrammar : _} {dd_NoGrammar : Option Addr} {k0_NoGrammar k1_NoGrammar k2_NoGrammar k3_NoGrammar k5_NoGrammar : Option Value}
    (xl_NoGrammar : K.lookup C_NoGrammar = some (excClassObj nm_NoGrammar qn_NoGrammar C_NoGrammar NN_NoGrammar bs_NoGrammar bm_NoGrammar true sn_NoGrammar su_NoGrammar ab_NoGrammar col_NoGrammar dd_NoGrammar k0_NoGrammar k1_NoGrammar k2_NoGrammar k3_NoGrammar k5_NoGrammar "ValueError.__new__"))
    (xv_NoGrammar : PySem.HandSPX.refsVE bm_NoGrammar = true)
    (xw_NoGrammar : PySem.W.findIn K (.ref C_NoGrammar) "__setattr__" = some (some (.builtin "object.__setattr__")))
    (xf_NoGrammar : PySem.W.findIn K (.ref C_NoGrammar) "why" = some none)
    (xi_NoGrammar : PySem.W.findIn K (.ref C_NoGrammar) "__init__" = some (some (.ref fI_NoGrammar)))
    (xj_NoGrammar : PySem.W.typeIn K (.ref fI_NoGrammar) = some (.type "function"))
    {od_iNoGrammar an_iNoGrammar : Option Addr} {sl_iNoGrammar : Array (Option Value)} {oc_iNoGrammar kV_iNoGrammar dc_iNoGrammar pm_iNoGrammar cd_iNoGrammar ct_iNoGrammar : Value}
    (xo_NoGrammar : K.lookup fI_NoGrammar = some ⟨oc_iNoGrammar, od_iNoGrammar, .func (PySem.W.fnOf "__init__" "NoGrammar.__init__" (defArgs s_NoGrammar_init) (defBody s_NoGrammar_init) (defScope s_NoGrammar_init) .none kV_iNoGrammar dc_iNoGrammar pm_iNoGrammar an_iNoGrammar cd_iNoGrammar ct_iNoGrammar), sl_iNoGrammar⟩)
    (xu_NoGrammar : PySem.W.codeIn K cd_iNoGrammar "NoGrammar.__init__" = true)
    (xz_NoGrammar : PySem.W.keepIn K (.ref fI_NoGrammar) = true)
    (xp_NoName : PySem.W.excIn K C_NoName [.type "ValueError", .type "Exception", .type "BaseException", .type "object"] "ValueError.__new__" = true)
    (qs_QuiltError : PySem.W.specialIn K (.ref C_QuiltError) "__getattribute__" = some (some (.builtin "type.__getattribute__")))
    (qr_QuiltError : PySem.W.readsIn K C_QuiltError (.type "type") = true)
    (qf_QuiltError : PySem.W.findCls K (.ref C_QuiltError) (.type "type") "__init__" = some (.val (.builtin "ValueError.__init__")))
    (y_NoFit_NoFit : PySem.W.subIn K (.ref C_NoFit) (.ref C_NoFit) = some true)
    (y_NoTree_QuiltError : PySem.W.subIn K (.ref C_NoTree) (.ref C_QuiltError) = some true)
    (y_NoTree_NoNumber : PySem.W.subIn K (.ref C_NoTree) (.ref C_NoNumber) = some false)
    (d_NoTree_NoNumber : ¬ C_NoTree = C_NoNumber)
    (y_NoTree_NoTree : PySem.W.subIn K (.ref C_NoTree) (.ref C_NoTree) = some true)
    (y_NoNumber_QuiltError : PySem.W.subIn K (.ref C_NoNumber) (.ref C_QuiltError) = some true)
    (y_NoNumber_NoName : PySem.W.subIn K (.ref C_NoNumber) (.ref C_NoName) = some false)
    (d_NoNumber_NoName : ¬ C_NoNumber = C_NoName)
    (y_NoNumber_NoNumber : PySem.W.subIn K (.ref C_NoNumber) (.ref C_NoNumber) = some true)
    (y_NoNumber_TooMany : PySem.W.subIn K (.ref C_NoNumber) (.ref C_TooMany) = some false)
    (d_NoNumber_TooMany : ¬ C_NoNumber = C_TooMany)
    (y_NoNumber_ValueError : PySem.W.subIn K (.ref C_NoNumber) (.type "ValueError") = some true)
    (y_NoName_QuiltError : PySem.W.subIn K (.ref C_NoName) (.ref C_QuiltError) = some true)
    (y_NoName_NoName : PySem.W.subIn K (.ref C_NoName) (.ref C_NoName) = some true)
    (y_NoName_NoNumber : PySem.W.subIn K (.ref C_NoName) (.ref C_NoNumber) = some false)
    (d_NoName_NoNumber : ¬ C_NoName = C_NoNumber)
    (y_NoName_TooMany : PySem.W.subIn K (.ref C_NoName) (.ref C_TooMany) = some false)
    (d_NoName_TooMany : ¬ C_NoName = C_TooMany)
    {O_Rule : Addr}
    (oa_Rule : PySem.W.nsIn K mainGlobals "Rule" = some (some (.ref O_Rule)))
    (ob_Rule : PySem.W.plainGet K O_Rule Str.empty = true)
    (oc_Rule : PySem.W.hasDictIn K O_Rule = true)
    (od_Rule : PySem.W.plainOver K O_Rule = true)
    (oe_Rule : PySem.W.findIn K (.ref O_Rule) "__setattr__" = some (some (.builtin "object.__setattr__")))
    (of_Rule : PySem.W.makesIn K O_Rule = true)
    (og_Rule : PySem.W.keepIn K (.ref O_Rule) = true)
    (oh_Rule : PySem.W.typeIn K (.ref O_Rule) = some (.type "type"))
    (oi_Rule : PySem.W.findIn K (.ref O_Rule) "__class__" = some (some (.builtin "object.__class__")))
    (oj_Rule : PySem.W.mroIn K O_Rule (.type "object") = some true)
    {O_CellRule : Addr}
    (oa_CellRule : PySem.W.nsIn K mainGlobals "CellRule" = some (some (.ref O_CellRule)))
    (ob_CellRule : PySem.W.plainGet K O_CellRule Str.empty = true)
    (oc_CellRule : PySem.W.hasDictIn K O_CellRule = true)
    (od_CellRule : PySem.W.plainOver K O_CellRule = true)
    (oe_CellRule : PySem.W.findIn K (.ref O_CellRule) "__setattr__" = some (some (.builtin "object.__setattr__")))
    (of_CellRule : PySem.W.makesIn K O_CellRule = true)
    (og_CellRule : PySem.W.keepIn K (.ref O_CellRule) = true)
    (oh_CellRule : PySem.W.typeIn K (.ref O_CellRule) = some (.type "type"))
    (oi_CellRule : PySem.W.findIn K (.ref O_CellRule) "__class__" = some (some (.builtin "object.__class__")))
    (oj_CellRule : PySem.W.mroIn K O_CellRule (.type "object") = some true)
    {O_BesideRule : Addr}
    (oa_BesideRule : PySem.W.nsIn K mainGlobals "BesideRule" = some (some (.ref O_BesideRule)))
    (ob_BesideRule : PySem.W.plainGet K O_BesideRule Str.empty = true)
    (oc_BesideRule : PySem.W.hasDictIn K O_BesideRule = true)
    (od_BesideRule : PySem.W.plainOver K O_BesideRule = true)
    (oe_BesideRule : PySem.W.findIn K (.ref O_BesideRule) "__setattr__" = some (some (.builtin "object.__setattr__")))
    (of_BesideRule : PySem.W.makesIn K O_BesideRule = true)
    (og_BesideRule : PySem.W.keepIn K (.ref O_BesideRule) = true)
    (oh_BesideRule : PySem.W.typeIn K (.ref O_BesideRule) = some (.type "type"))
    (oi_BesideRule : PySem.W.findIn K (.ref O_BesideRule) "__class__" = some (some (.builtin "object.__class__")))
    (oj_BesideRule : PySem.W.mroIn K O_BesideRule (.type "object") = some true)
    {O_AboveRule : Addr}
    (oa_AboveRule : PySem.W.nsIn K mainGlobals "AboveRule" = some (some (.ref O_AboveRule)))
    (ob_AboveRule : PySem.W.plainGet K O_AboveRule Str.empty = true)
    (oc_AboveRule : PySem.W.hasDictIn K O_AboveRule = true)
    (od_AboveRule : PySem.W.plainOver K O_AboveRule = true)
    (oe_AboveRule : PySem.W.findIn K (.ref O_AboveRule) "__setattr__" = some (some (.builtin "object.__setattr__")))
    (of_AboveRule : PySem.W.makesIn K O_AboveRule = true)
    (og_AboveRule : PySem.W.keepIn K (.ref O_AboveRule) = true)
    (oh_AboveRule : PySem.W.typeIn K (.ref O_AboveRule) = some (.type "type"))
    (oi_AboveRule : PySem.W.findIn K (.ref O_AboveRule) "__class__" = some (some (.builtin "object.__class__")))
    (oj_AboveRule : PySem.W.mroIn K O_AboveRule (.type "object") = some true)
    {O_TurnRule : Addr}
    (oa_TurnRule : PySem.W.nsIn K mainGlobals "TurnRule" = some (some (.ref O_TurnRule)))
    (ob_TurnRule : PySem.W.plainGet K O_TurnRule Str.empty = true)
    (oc_TurnRule : PySem.W.hasDictIn K O_TurnRule = true)
    (od_TurnRule : PySem.W.plainOver K O_TurnRule = true)
    (oe_TurnRule : PySem.W.findIn K (.ref O_TurnRule) "__setattr__" = some (some (.builtin "object.__setattr__")))
    (of_TurnRule : PySem.W.makesIn K O_TurnRule = true)
    (og_TurnRule : PySem.W.keepIn K (.ref O_TurnRule) = true)
    (oh_TurnRule : PySem.W.typeIn K (.ref O_TurnRule) = some (.type "type"))
    (oi_TurnRule : PySem.W.findIn K (.ref O_TurnRule) "__class__" = some (some (.builtin "object.__class__")))
    (oj_TurnRule : PySem.W.mroIn K O_TurnRule (.type "object") = some true)
    {O_Counter : Addr}
    (oa_Counter : PySem.W.nsIn K mainGlobals "Counter" = some (some (.ref O_Counter)))
    (ob_Counter : PySem.W.plainGet K O_Counter Str.empty = true)
    (oc_Counter : PySem.W.hasDictIn K O_Counter = true)
    (od_Counter : PySem.W.plainOver K O_Counter = true)
    (oe_Counter : PySem.W.findIn K (.ref O_Counter) "__setattr__" = some (some (.builtin "object.__setattr__")))
    (of_Counter : PySem.W.makesIn K O_Counter = true)
    (og_Counter : PySem.W.keepIn K (.ref O_Counter) = true)
    (oh_Counter : PySem.W.typeIn K (.ref O_Counter) = some (.type "type"))
    (oi_Counter : PySem.W.findIn K (.ref O_Counter) "__class__" = some (some (.builtin "object.__class__")))
    (oj_Counter : PySem.W.mroIn K O_Counter (.type "object") = some true)
    {O_Grammar : Addr}
    (oa_Grammar : PySem.W.nsIn K mainGlobals "Grammar" = some (some (.ref O_Grammar)))
    (ob_Grammar : PySem.W.plainGet K O_Grammar Str.empty = true)
    (oc_Grammar : PySem.W.hasDictIn K O_Grammar = true)
    (od_Grammar : PySem.W.plainOver K O_Grammar = true)
    (oe_Grammar : PySem.W.findIn K (.ref O_Grammar) "__setattr__" = some (some (.builtin "object.__setattr__")))
    (of_Grammar : PySem.W.makesIn K O_Grammar = true)
    (og_Grammar : PySem.W.keepIn K (.ref O_Grammar) = true)
    (oh_Grammar : PySem.W.typeIn K (.ref O_Grammar) = some (.type "type"))
    (oi_Grammar : PySem.W.findIn K (.ref O_Grammar) "__class__" = some (some (.builtin "object.__class__")))
    (oj_Grammar : PySem.W.mroIn K O_Grammar (.type "object") = some true)
    {g_Rule_init : Addr} {god_Rule_init gan_Rule_init : Option Addr} {gsl_Rule_init : Array (Option Value)} {goc_Rule_init gkV_Rule_init gdc_Rule_init gpm_Rule_init gcd_Rule_init gct_Rule_init : Value}
    (ma_Rule_init : PySem.W.findIn K (.ref O_Rule) "__init__" = some (some (.ref g_Rule_init)))
    (ml_Rule_init : K.lookup g_Rule_init = some ⟨goc_Rule_init, god_Rule_init, .func (PySem.W.fnOf "__init__" "Rule.__init__" (defArgs s_Rule_init) (defBody s_Rule_init) (defScope s_Rule_init) .none gkV_Rule_init gdc_Rule_init gpm_Rule_init gan_Rule_init gcd_Rule_init gct_Rule_init), gsl_Rule_init⟩)
    (mc_Rule_init : PySem.W.codeIn K gcd_Rule_init "Rule.__init__" = true)
    (mk_Rule_init : PySem.W.keepIn K (.ref g_Rule_init) = true)
    (mf_Rule_init : PySem.W.isFn K (.ref g_Rule_init) = true)
    (na_CellRule_sign : PySem.W.findIn K (.ref O_CellRule) "sign" = some none)
    (na_CellRule_name : PySem.W.findIn K (.ref O_CellRule) "name" = some none)
    (na_CellRule_cost : PySem.W.findIn K (.ref O_CellRule) "cost" = some none)
    {g_CellRule_init : Addr} {god_CellRule_init gan_CellRule_init : Option Addr} {gsl_CellRule_init : Array (Option Value)} {goc_CellRule_init gkV_CellRule_init gdc_CellRule_init gpm_CellRule_init gcd_CellRule_init gct_CellRule_init : Value}
    (ma_CellRule_init : PySem.W.findIn K (.ref O_CellRule) "__init__" = some (some (.ref g_CellRule_init)))
    (ml_CellRule_init : K.lookup g_CellRule_init = some ⟨goc_CellRule_init, god_CellRule_init, .func (PySem.W.fnOf "__init__" "CellRule.__init__" (defArgs s_CellRule_init) (defBody s_CellRule_init) (defScope s_CellRule_init) .none gkV_CellRule_init gdc_CellRule_init gpm_CellRule_init gan_CellRule_init gcd_CellRule_init gct_CellRule_init), gsl_CellRule_init⟩)
    (mc_CellRule_init : PySem.W.codeIn K gcd_CellRule_init "CellRule.__init__" = true)
    (mk_CellRule_init : PySem.W.keepIn K (.ref g_CellRule_init) = true)
    (mf_CellRule_init : PySem.W.isFn K (.ref g_CellRule_init) = true)
    {g_CellRule_made : Addr} {god_CellRule_made gan_CellRule_made : Option Addr} {gsl_CellRule_made : Array (Option Value)} {goc_CellRule_made gkV_CellRule_made gdc_CellRule_made gpm_CellRule_made gcd_CellRule_made gct_CellRule_made : Value}
    (ma_CellRule_made : PySem.W.findIn K (.ref O_CellRule) "made" = some (some (.ref g_CellRule_made)))
    (ml_CellRule_made : K.lookup g_CellRule_made = some ⟨goc_CellRule_made, god_CellRule_made, .func (PySem.W.fnOf "made" "CellRule.made" (defArgs s_CellRule_made) (defBody s_CellRule_made) (defScope s_CellRule_made) .none gkV_CellRule_made gdc_CellRule_made gpm_CellRule_made gan_CellRule_made gcd_CellRule_made gct_CellRule_made), gsl_CellRule_made⟩)
    (mc_CellRule_made : PySem.W.codeIn K gcd_CellRule_made "CellRule.made" = true)
    (mk_CellRule_made : PySem.W.keepIn K (.ref g_CellRule_made) = true)
    (mf_CellRule_made : PySem.W.isFn K (.ref g_CellRule_made) = true)
    {g_Rule_parts : Addr} {god_Rule_parts gan_Rule_parts : Option Addr} {gsl_Rule_parts : Array (Option Value)} {goc_Rule_parts gkV_Rule_parts gdc_Rule_parts gpm_Rule_parts gcd_Rule_parts gct_Rule_parts : Value}
    (ma_CellRule_parts : PySem.W.findIn K (.ref O_CellRule) "parts" = some (some (.ref g_Rule_parts)))
    (ml_Rule_parts : K.lookup g_Rule_parts = some ⟨goc_Rule_parts, god_Rule_parts, .func (PySem.W.fnOf "parts" "Rule.parts" (defArgs s_Rule_parts) (defBody s_Rule_parts) (defScope s_Rule_parts) .none gkV_Rule_parts gdc_Rule_parts gpm_Rule_parts gan_Rule_parts gcd_Rule_parts gct_Rule_parts), gsl_Rule_parts⟩)
    (mc_Rule_parts : PySem.W.codeIn K gcd_Rule_parts "Rule.parts" = true)
    (mk_Rule_parts : PySem.W.keepIn K (.ref g_Rule_parts) = true)
    (mf_Rule_parts : PySem.W.isFn K (.ref g_Rule_parts) = true)
    (na_BesideRule_one : PySem.W.findIn K (.ref O_BesideRule) "one" = some none)
    (na_BesideRule_other : PySem.W.findIn K (.ref O_BesideRule) "other" = some none)
    (na_BesideRule_name : PySem.W.findIn K (.ref O_BesideRule) "name" = some none)
    (na_BesideRule_cost : PySem.W.findIn K (.ref O_BesideRule) "cost" = some none)
    {g_BesideRule_init : Addr} {god_BesideRule_init gan_BesideRule_init : Option Addr} {gsl_BesideRule_init : Array (Option Value)} {goc_BesideRule_init gkV_BesideRule_init gdc_BesideRule_init gpm_BesideRule_init gcd_BesideRule_init gct_BesideRule_init : Value}
    (ma_BesideRule_init : PySem.W.findIn K (.ref O_BesideRule) "__init__" = some (some (.ref g_BesideRule_init)))
    (ml_BesideRule_init : K.lookup g_BesideRule_init = some ⟨goc_BesideRule_init, god_BesideRule_init, .func (PySem.W.fnOf "__init__" "BesideRule.__init__" (defArgs s_BesideRule_init) (defBody s_BesideRule_init) (defScope s_BesideRule_init) .none gkV_BesideRule_init gdc_BesideRule_init gpm_BesideRule_init gan_BesideRule_init gcd_BesideRule_init gct_BesideRule_init), gsl_BesideRule_init⟩)
    (mc_BesideRule_init : PySem.W.codeIn K gcd_BesideRule_init "BesideRule.__init__" = true)
    (mk_BesideRule_init : PySem.W.keepIn K (.ref g_BesideRule_init) = true)
    (mf_BesideRule_init : PySem.W.isFn K (.ref g_BesideRule_init) = true)
    {g_BesideRule_parts : Addr} {god_BesideRule_parts gan_BesideRule_parts : Option Addr} {gsl_BesideRule_parts : Array (Option Value)} {goc_BesideRule_parts gkV_BesideRule_parts gdc_BesideRule_parts gpm_BesideRule_parts gcd_BesideRule_parts gct_BesideRule_parts : Value}
    (ma_BesideRule_parts : PySem.W.findIn K (.ref O_BesideRule) "parts" = some (some (.ref g_BesideRule_parts)))
    (ml_BesideRule_parts : K.lookup g_BesideRule_parts = some ⟨goc_BesideRule_parts, god_BesideRule_parts, .func (PySem.W.fnOf "parts" "BesideRule.parts" (defArgs s_BesideRule_parts) (defBody s_BesideRule_parts) (defScope s_BesideRule_parts) .none gkV_BesideRule_parts gdc_BesideRule_parts gpm_BesideRule_parts gan_BesideRule_parts gcd_BesideRule_parts gct_BesideRule_parts), gsl_BesideRule_parts⟩)
    (mc_BesideRule_parts : PySem.W.codeIn K gcd_BesideRule_parts "BesideRule.parts" = true)
    (mk_BesideRule_parts : PySem.W.keepIn K (.ref g_BesideRule_parts) = true)
    (mf_BesideRule_parts : PySem.W.isFn K (.ref g_BesideRule_parts) = true)
    {g_BesideRule_made : Addr} {god_BesideRule_made gan_BesideRule_made : Option Addr} {gsl_BesideRule_made : Array (Option Value)} {goc_BesideRule_made gkV_BesideRule_made gdc_BesideRule_made gpm_BesideRule_made gcd_BesideRule_made gct_BesideRule_made : Value}
    (ma_BesideRule_made : PySem.W.findIn K (.ref O_BesideRule) "made" = some (some (.ref g_BesideRule_made)))
    (ml_BesideRule_made : K.lookup g_BesideRule_made = some ⟨goc_BesideRule_made, god_BesideRule_made, .func (PySem.W.fnOf "made" "BesideRule.made" (defArgs s_BesideRule_made) (defBody s_BesideRule_made) (defScope s_BesideRule_made) .none gkV_BesideRule_made gdc_BesideRule_made gpm_BesideRule_made gan_BesideRule_made gcd_BesideRule_made gct_BesideRule_made), gsl_BesideRule_made⟩)
    (mc_BesideRule_made : PySem.W.codeIn K gcd_BesideRule_made "BesideRule.made" = true)
    (mk_BesideRule_made : PySem.W.keepIn K (.ref g_BesideRule_made) = true)
    (mf_BesideRule_made : PySem.W.isFn K (.ref g_BesideRule_made) = true)
    (na_AboveRule_one : PySem.W.findIn K (.ref O_AboveRule) "one" = some none)
    (na_AboveRule_other : PySem.W.findIn K (.ref O_AboveRule) "other" = some none)
    (na_AboveRule_name : PySem.W.findIn K (.ref O_AboveRule) "name" = some none)
    (na_AboveRule_cost : PySem.W.findIn K (.ref O_AboveRule) "cost" = some none)
    {g_AboveRule_init : Addr} {god_AboveRule_init gan_AboveRule_init : Option Addr} {gsl_AboveRule_init : Array (Option Value)} {goc_AboveRule_init gkV_AboveRule_init gdc_AboveRule_init gpm_AboveRule_init gcd_AboveRule_init gct_AboveRule_init : Value}
    (ma_AboveRule_init : PySem.W.findIn K (.ref O_AboveRule) "__init__" = some (some (.ref g_AboveRule_init)))
    (ml_AboveRule_init : K.lookup g_AboveRule_init = some ⟨goc_AboveRule_init, god_AboveRule_init, .func (PySem.W.fnOf "__init__" "AboveRule.__init__" (defArgs s_AboveRule_init) (defBody s_AboveRule_init) (defScope s_AboveRule_init) .none gkV_AboveRule_init gdc_AboveRule_init gpm_AboveRule_init gan_AboveRule_init gcd_AboveRule_init gct_AboveRule_init), gsl_AboveRule_init⟩)
    (mc_AboveRule_init : PySem.W.codeIn K gcd_AboveRule_init "AboveRule.__init__" = true)
    (mk_AboveRule_init : PySem.W.keepIn K (.ref g_AboveRule_init) = true)
    (mf_AboveRule_init : PySem.W.isFn K (.ref g_AboveRule_init) = true)
    {g_AboveRule_parts : Addr} {god_AboveRule_parts gan_AboveRule_parts : Option Addr} {gsl_AboveRule_parts : Array (Option Value)} {goc_AboveRule_parts gkV_AboveRule_parts gdc_AboveRule_parts gpm_AboveRule_parts gcd_AboveRule_parts gct_AboveRule_parts : Value}
    (ma_AboveRule_parts : PySem.W.findIn K (.ref O_AboveRule) "parts" = some (some (.ref g_AboveRule_parts)))
    (ml_AboveRule_parts : K.lookup g_AboveRule_parts = some ⟨goc_AboveRule_parts, god_AboveRule_parts, .func (PySem.W.fnOf "parts" "AboveRule.parts" (defArgs s_AboveRule_parts) (defBody s_AboveRule_parts) (defScope s_AboveRule_parts) .none gkV_AboveRule_parts gdc_AboveRule_parts gpm_AboveRule_parts gan_AboveRule_parts gcd_AboveRule_parts gct_AboveRule_parts), gsl_AboveRule_parts⟩)
    (mc_AboveRule_parts : PySem.W.codeIn K gcd_AboveRule_parts "AboveRule.parts" = true)
    (mk_AboveRule_parts : PySem.W.keepIn K (.ref g_AboveRule_parts) = true)
    (mf_AboveRule_parts : PySem.W.isFn K (.ref g_AboveRule_parts) = true)
    {g_AboveRule_made : Addr} {god_AboveRule_made gan_AboveRule_made : Option Addr} {gsl_AboveRule_made : Array (Option Value)} {goc_AboveRule_made gkV_AboveRule_made gdc_AboveRule_made gpm_AboveRule_made gcd_AboveRule_made gct_AboveRule_made : Value}
    (ma_AboveRule_made : PySem.W.findIn K (.ref O_AboveRule) "made" = some (some (.ref g_AboveRule_made)))
    (ml_AboveRule_made : K.lookup g_AboveRule_made = some ⟨goc_AboveRule_made, god_AboveRule_made, .func (PySem.W.fnOf "made" "AboveRule.made" (defArgs s_AboveRule_made) (defBody s_AboveRule_made) (defScope s_AboveRule_made) .none gkV_AboveRule_made gdc_AboveRule_made gpm_AboveRule_made gan_AboveRule_made gcd_AboveRule_made gct_AboveRule_made), gsl_AboveRule_made⟩)
    (mc_AboveRule_made : PySem.W.codeIn K gcd_AboveRule_made "AboveRule.made" = true)
    (mk_AboveRule_made : PySem.W.keepIn K (.ref g_AboveRule_made) = true)
    (mf_AboveRule_made : PySem.W.isFn K (.ref g_AboveRule_made) = true)
    (na_TurnRule_part : PySem.W.findIn K (.ref O_TurnRule) "part" = some none)
    (na_TurnRule_turning : PySem.W.findIn K (.ref O_TurnRule) "turning" = some none)
    (na_TurnRule_name : PySem.W.findIn K (.ref O_TurnRule) "name" = some none)
    (na_TurnRule_cost : PySem.W.findIn K (.ref O_TurnRule) "cost" = some none)
    {g_TurnRule_init : Addr} {god_TurnRule_init gan_TurnRule_init : Option Addr} {gsl_TurnRule_init : Array (Option Value)} {goc_TurnRule_init gkV_TurnRule_init gdc_TurnRule_init gpm_TurnRule_init gcd_TurnRule_init gct_TurnRule_init : Value}
    (ma_TurnRule_init : PySem.W.findIn K (.ref O_TurnRule) "__init__" = some (some (.ref g_TurnRule_init)))
    (ml_TurnRule_init : K.lookup g_TurnRule_init = some ⟨goc_TurnRule_init, god_TurnRule_init, .func (PySem.W.fnOf "__init__" "TurnRule.__init__" (defArgs s_TurnRule_init) (defBody s_TurnRule_init) (defScope s_TurnRule_init) .none gkV_TurnRule_init gdc_TurnRule_init gpm_TurnRule_init gan_TurnRule_init gcd_TurnRule_init gct_TurnRule_init), gsl_TurnRule_init⟩)
    (mc_TurnRule_init : PySem.W.codeIn K gcd_TurnRule_init "TurnRule.__init__" = true)
    (mk_TurnRule_init : PySem.W.keepIn K (.ref g_TurnRule_init) = true)
    (mf_TurnRule_init : PySem.W.isFn K (.ref g_TurnRule_init) = true)
    {g_TurnRule_parts : Addr} {god_TurnRule_parts gan_TurnRule_parts : Option Addr} {gsl_TurnRule_parts : Array (Option Value)} {goc_TurnRule_parts gkV_TurnRule_parts gdc_TurnRule_parts gpm_TurnRule_parts gcd_TurnRule_parts gct_TurnRule_parts : Value}
    (ma_TurnRule_parts : PySem.W.findIn K (.ref O_TurnRule) "parts" = some (some (.ref g_TurnRule_parts)))
    (ml_TurnRule_parts : K.lookup g_TurnRule_parts = some ⟨goc_TurnRule_parts, god_TurnRule_parts, .func (PySem.W.fnOf "parts" "TurnRule.parts" (defArgs s_TurnRule_parts) (defBody s_TurnRule_parts) (defScope s_TurnRule_parts) .none gkV_TurnRule_parts gdc_TurnRule_parts gpm_TurnRule_parts gan_TurnRule_parts gcd_TurnRule_parts gct_TurnRule_parts), gsl_TurnRule_parts⟩)
    (mc_TurnRule_parts : PySem.W.codeIn K gcd_TurnRule_parts "TurnRule.parts" = true)
    (mk_TurnRule_parts : PySem.W.keepIn K (.ref g_TurnRule_parts) = true)
    (mf_TurnRule_parts : PySem.W.isFn K (.ref g_TurnRule_parts) = true)
    {g_TurnRule_made : Addr} {god_TurnRule_made gan_TurnRule_made : Option Addr} {gsl_TurnRule_made : Array (Option Value)} {goc_TurnRule_made gkV_TurnRule_made gdc_TurnRule_made gpm_TurnRule_made gcd_TurnRule_made gct_TurnRule_made : Value}
    (ma_TurnRule_made : PySem.W.findIn K (.ref O_TurnRule) "made" = some (some (.ref g_TurnRule_made)))
    (ml_TurnRule_made : K.lookup g_TurnRule_made = some ⟨goc_TurnRule_made, god_TurnRule_made, .func (PySem.W.fnOf "made" "TurnRule.made" (defArgs s_TurnRule_made) (defBody s_TurnRule_made) (defScope s_TurnRule_made) .none gkV_TurnRule_made gdc_TurnRule_made gpm_TurnRule_made gan_TurnRule_made gcd_TurnRule_made gct_TurnRule_made), gsl_TurnRule_made⟩)
    (mc_TurnRule_made : PySem.W.codeIn K gcd_TurnRule_made "TurnRule.made" = true)
    (mk_TurnRule_made : PySem.W.keepIn K (.ref g_TurnRule_made) = true)
    (mf_TurnRule_made : PySem.W.isFn K (.ref g_TurnRule_made) = true)
    (na_Counter_grammar : PySem.W.findIn K (.ref O_Counter) "grammar" = some none)
    (na_Counter_kept : PySem.W.findIn K (.ref O_Counter) "kept" = some none)
    {g_Counter_init : Addr} {god_Counter_init gan_Counter_init : Option Addr} {gsl_Counter_init : Array (Option Value)} {goc_Counter_init gkV_Counter_init gdc_Counter_init gpm_Counter_init gcd_Counter_init gct_Counter_init : Value}
    (ma_Counter_init : PySem.W.findIn K (.ref O_Counter) "__init__" = some (some (.ref g_Counter_init)))
    (ml_Counter_init : K.lookup g_Counter_init = some ⟨goc_Counter_init, god_Counter_init, .func (PySem.W.fnOf "__init__" "Counter.__init__" (defArgs s_Counter_init) (defBody s_Counter_init) (defScope s_Counter_init) .none gkV_Counter_init gdc_Counter_init gpm_Counter_init gan_Counter_init gcd_Counter_init gct_Counter_init), gsl_Counter_init⟩)
    (mc_Counter_init : PySem.W.codeIn K gcd_Counter_init "Counter.__init__" = true)
    (mk_Counter_init : PySem.W.keepIn K (.ref g_Counter_init) = true)
    (mf_Counter_init : PySem.W.isFn K (.ref g_Counter_init) = true)
    {g_Counter_of_name : Addr} {god_Counter_of_name gan_Counter_of_name : Option Addr} {gsl_Counter_of_name : Array (Option Value)} {goc_Counter_of_name gkV_Counter_of_name gdc_Counter_of_name gpm_Counter_of_name gcd_Counter_of_name gct_Counter_of_name : Value}
    (ma_Counter_of_name : PySem.W.findIn K (.ref O_Counter) "of_name" = some (some (.ref g_Counter_of_name)))
    (ml_Counter_of_name : K.lookup g_Counter_of_name = some ⟨goc_Counter_of_name, god_Counter_of_name, .func (PySem.W.fnOf "of_name" "Counter.of_name" (defArgs s_Counter_of_name) (defBody s_Counter_of_name) (defScope s_Counter_of_name) .none gkV_Counter_of_name gdc_Counter_of_name gpm_Counter_of_name gan_Counter_of_name gcd_Counter_of_name gct_Counter_of_name), gsl_Counter_of_name⟩)
    (mc_Counter_of_name : PySem.W.codeIn K gcd_Counter_of_name "Counter.of_name" = true)
    (mk_Counter_of_name : PySem.W.keepIn K (.ref g_Counter_of_name) = true)
    (mf_Counter_of_name : PySem.W.isFn K (.ref g_Counter_of_name) = true)
    {g_Counter_of_shares : Addr} {god_Counter_of_shares gan_Counter_of_shares : Option Addr} {gsl_Counter_of_shares : Array (Option Value)} {goc_Counter_of_shares gkV_Counter_of_shares gdc_Counter_of_shares gpm_Counter_of_shares gcd_Counter_of_shares gct_Counter_of_shares : Value}
    (ma_Counter_of_shares : PySem.W.findIn K (.ref O_Counter) "of_shares" = some (some (.ref g_Counter_of_shares)))
    (ml_Counter_of_shares : K.lookup g_Counter_of_shares = some ⟨goc_Counter_of_shares, god_Counter_of_shares, .func (PySem.W.fnOf "of_shares" "Counter.of_shares" (defArgs s_Counter_of_shares) (defBody s_Counter_of_shares) (defScope s_Counter_of_shares) .none gkV_Counter_of_shares gdc_Counter_of_shares gpm_Counter_of_shares gan_Counter_of_shares gcd_Counter_of_shares gct_Counter_of_shares), gsl_Counter_of_shares⟩)
    (mc_Counter_of_shares : PySem.W.codeIn K gcd_Counter_of_shares "Counter.of_shares" = true)
    (mk_Counter_of_shares : PySem.W.keepIn K (.ref g_Counter_of_shares) = true)
    (mf_Counter_of_shares : PySem.W.isFn K (.ref g_Counter_of_shares) = true)
    {g_Counter_of_rule : Addr} {god_Counter_of_rule gan_Counter_of_rule : Option Addr} {gsl_Counter_of_rule : Array (Option Value)} {goc_Counter_of_rule gkV_Counter_of_rule gdc_Counter_of_rule gpm_Counter_of_rule gcd_Counter_of_rule gct_Counter_of_rule : Value}
    (ma_Counter_of_rule : PySem.W.findIn K (.ref O_Counter) "of_rule" = some (some (.ref g_Counter_of_rule)))
    (ml_Counter_of_rule : K.lookup g_Counter_of_rule = some ⟨goc_Counter_of_rule, god_Counter_of_rule, .func (PySem.W.fnOf "of_rule" "Counter.of_rule" (defArgs s_Counter_of_rule) (defBody s_Counter_of_rule) (defScope s_Counter_of_rule) .none gkV_Counter_of_rule gdc_Counter_of_rule gpm_Counter_of_rule gan_Counter_of_rule gcd_Counter_of_rule gct_Counter_of_rule), gsl_Counter_of_rule⟩)
    (mc_Counter_of_rule : PySem.W.codeIn K gcd_Counter_of_rule "Counter.of_rule" = true)
    (mk_Counter_of_rule : PySem.W.keepIn K (.ref g_Counter_of_rule) = true)
    (mf_Counter_of_rule : PySem.W.isFn K (.ref g_Counter_of_rule) = true)
    {g_Counter_tree : Addr} {god_Counter_tree gan_Counter_tree : Option Addr} {gsl_Counter_tree : Array (Option Value)} {goc_Counter_tree gkV_Counter_tree gdc_Counter_tree gpm_Counter_tree gcd_Counter_tree gct_Counter_tree : Value}
    (ma_Counter_tree : PySem.W.findIn K (.ref O_Counter) "tree" = some (some (.ref g_Counter_tree)))
    (ml_Counter_tree : K.lookup g_Counter_tree = some ⟨goc_Counter_tree, god_Counter_tree, .func (PySem.W.fnOf "tree" "Counter.tree" (defArgs s_Counter_tree) (defBody s_Counter_tree) (defScope s_Counter_tree) .none gkV_Counter_tree gdc_Counter_tree gpm_Counter_tree gan_Counter_tree gcd_Counter_tree gct_Counter_tree), gsl_Counter_tree⟩)
    (mc_Counter_tree : PySem.W.codeIn K gcd_Counter_tree "Counter.tree" = true)
    (mk_Counter_tree : PySem.W.keepIn K (.ref g_Counter_tree) = true)
    (mf_Counter_tree : PySem.W.isFn K (.ref g_Counter_tree) = true)
    {g_Counter_tree_by : Addr} {god_Counter_tree_by gan_Counter_tree_by : Option Addr} {gsl_Counter_tree_by : Array (Option Value)} {goc_Counter_tree_by gkV_Counter_tree_by gdc_Counter_tree_by gpm_Counter_tree_by gcd_Counter_tree_by gct_Counter_tree_by : Value}
    (ma_Counter_tree_by : PySem.W.findIn K (.ref O_Counter) "tree_by" = some (some (.ref g_Counter_tree_by)))
    (ml_Counter_tree_by : K.lookup g_Counter_tree_by = some ⟨goc_Counter_tree_by, god_Counter_tree_by, .func (PySem.W.fnOf "tree_by" "Counter.tree_by" (defArgs s_Counter_tree_by) (defBody s_Counter_tree_by) (defScope s_Counter_tree_by) .none gkV_Counter_tree_by gdc_Counter_tree_by gpm_Counter_tree_by gan_Counter_tree_by gcd_Counter_tree_by gct_Counter_tree_by), gsl_Counter_tree_by⟩)
    (mc_Counter_tree_by : PySem.W.codeIn K gcd_Counter_tree_by "Counter.tree_by" = true)
    (mk_Counter_tree_by : PySem.W.keepIn K (.ref g_Counter_tree_by) = true)
    (mf_Counter_tree_by : PySem.W.isFn K (.ref g_Counter_tree_by) = true)
    {g_Counter_shape_of : Addr} {god_Counter_shape_of gan_Counter_shape_of : Option Addr} {gsl_Counter_shape_of : Array (Option Value)} {goc_Counter_shape_of gkV_Counter_shape_of gdc_Counter_shape_of gpm_Counter_shape_of gcd_Counter_shape_of gct_Counter_shape_of : Value}
    (ma_Counter_shape_of : PySem.W.findIn K (.ref O_Counter) "shape_of" = some (some (.ref g_Counter_shape_of)))
    (ml_Counter_shape_of : K.lookup g_Counter_shape_of = some ⟨goc_Counter_shape_of, god_Counter_shape_of, .func (PySem.W.fnOf "shape_of" "Counter.shape_of" (defArgs s_Counter_shape_of) (defBody s_Counter_shape_of) (defScope s_Counter_shape_of) .none gkV_Counter_shape_of gdc_Counter_shape_of gpm_Counter_shape_of gan_Counter_shape_of gcd_Counter_shape_of gct_Counter_shape_of), gsl_Counter_shape_of⟩)
    (mc_Counter_shape_of : PySem.W.codeIn K gcd_Counter_shape_of "Counter.shape_of" = true)
    (mk_Counter_shape_of : PySem.W.keepIn K (.ref g_Counter_shape_of) = true)
    (mf_Counter_shape_of : PySem.W.isFn K (.ref g_Counter_shape_of) = true)
    {g_Counter_number : Addr} {god_Counter_number gan_Counter_number : Option Addr} {gsl_Counter_number : Array (Option Value)} {goc_Counter_number gkV_Counter_number gdc_Counter_number gpm_Counter_number gcd_Counter_number gct_Counter_number : Value}
    (ma_Counter_number : PySem.W.findIn K (.ref O_Counter) "number" = some (some (.ref g_Counter_number)))
    (ml_Counter_number : K.lookup g_Counter_number = some ⟨goc_Counter_number, god_Counter_number, .func (PySem.W.fnOf "number" "Counter.number" (defArgs s_Counter_number) (defBody s_Counter_number) (defScope s_Counter_number) .none gkV_Counter_number gdc_Counter_number gpm_Counter_number gan_Counter_number gcd_Counter_number gct_Counter_number), gsl_Counter_number⟩)
    (mc_Counter_number : PySem.W.codeIn K gcd_Counter_number "Counter.number" = true)
    (mk_Counter_number : PySem.W.keepIn K (.ref g_Counter_number) = true)
    (mf_Counter_number : PySem.W.isFn K (.ref g_Counter_number) = true)
    {g_Counter_number_by : Addr} {god_Counter_number_by gan_Counter_number_by : Option Addr} {gsl_Counter_number_by : Array (Option Value)} {goc_Counter_number_by gkV_Counter_number_by gdc_Counter_number_by gpm_Counter_number_by gcd_Counter_number_by gct_Counter_number_by : Value}
    (ma_Counter_number_by : PySem.W.findIn K (.ref O_Counter) "number_by" = some (some (.ref g_Counter_number_by)))
    (ml_Counter_number_by : K.lookup g_Counter_number_by = some ⟨goc_Counter_number_by, god_Counter_number_by, .func (PySem.W.fnOf "number_by" "Counter.number_by" (defArgs s_Counter_number_by) (defBody s_Counter_number_by) (defScope s_Counter_number_by) .none gkV_Counter_number_by gdc_Counter_number_by gpm_Counter_number_by gan_Counter_number_by gcd_Counter_number_by gct_Counter_number_by), gsl_Counter_number_by⟩)
    (mc_Counter_number_by : PySem.W.codeIn K gcd_Counter_number_by "Counter.number_by" = true)
    (mk_Counter_number_by : PySem.W.keepIn K (.ref g_Counter_number_by) = true)
    (mf_Counter_number_by : PySem.W.isFn K (.ref g_Counter_number_by) = true)
    (na_Grammar_signs : PySem.W.findIn K (.ref O_Grammar) "signs" = some none)
    (na_Grammar_start : PySem.W.findIn K (.ref O_Grammar) "start" = some none)
    (na_Grammar_kept_rules : PySem.W.findIn K (.ref O_Grammar) "kept_rules" = some none)
    (na_Grammar_kept_names : PySem.W.findIn K (.ref O_Grammar) "kept_names" = some none)
    {g_Grammar_init : Addr} {god_Grammar_init gan_Grammar_init : Option Addr} {gsl_Grammar_init : Array (Option Value)} {goc_Grammar_init gkV_Grammar_init gdc_Grammar_init gpm_Grammar_init gcd_Grammar_init gct_Grammar_init : Value}
    (ma_Grammar_init : PySem.W.findIn K (.ref O_Grammar) "__init__" = some (some (.ref g_Grammar_init)))
    (ml_Grammar_init : K.lookup g_Grammar_init = some ⟨goc_Grammar_init, god_Grammar_init, .func (PySem.W.fnOf "__init__" "Grammar.__init__" (defArgs s_Grammar_init) (defBody s_Grammar_init) (defScope s_Grammar_init) .none gkV_Grammar_init gdc_Grammar_init gpm_Grammar_init gan_Grammar_init gcd_Grammar_init gct_Grammar_init), gsl_Grammar_init⟩)
    (mc_Grammar_init : PySem.W.codeIn K gcd_Grammar_init "Grammar.__init__" = true)
    (mk_Grammar_init : PySem.W.keepIn K (.ref g_Grammar_init) = true)
    (mf_Grammar_init : PySem.W.isFn K (.ref g_Grammar_init) = true)
    {g_Grammar_rule : Addr} {god_Grammar_rule gan_Grammar_rule : Option Addr} {gsl_Grammar_rule : Array (Option Value)} {goc_Grammar_rule gkV_Grammar_rule gdc_Grammar_rule gpm_Grammar_rule gcd_Grammar_rule gct_Grammar_rule : Value}
    (ma_Grammar_rule : PySem.W.findIn K (.ref O_Grammar) "rule" = some (some (.ref g_Grammar_rule)))
    (ml_Grammar_rule : K.lookup g_Grammar_rule = some ⟨goc_Grammar_rule, god_Grammar_rule, .func (PySem.W.fnOf "rule" "Grammar.rule" (defArgs s_Grammar_rule) (defBody s_Grammar_rule) (defScope s_Grammar_rule) .none gkV_Grammar_rule gdc_Grammar_rule gpm_Grammar_rule gan_Grammar_rule gcd_Grammar_rule gct_Grammar_rule), gsl_Grammar_rule⟩)
    (mc_Grammar_rule : PySem.W.codeIn K gcd_Grammar_rule "Grammar.rule" = true)
    (mk_Grammar_rule : PySem.W.keepIn K (.ref g_Grammar_rule) = true)
    (mf_Grammar_rule : PySem.W.isFn K (.ref g_Grammar_rule) = true)
    {g_Grammar_many : Addr} {god_Grammar_many gan_Grammar_many : Option Addr} {gsl_Grammar_many : Array (Option Value)} {goc_Grammar_many gkV_Grammar_many gdc_Grammar_many gpm_Grammar_many gcd_Grammar_many gct_Grammar_many : Value}
    (ma_Grammar_many : PySem.W.findIn K (.ref O_Grammar) "many" = some (some (.ref g_Grammar_many)))
    (ml_Grammar_many : K.lookup g_Grammar_many = some ⟨goc_Grammar_many, god_Grammar_many, .func (PySem.W.fnOf "many" "Grammar.many" (defArgs s_Grammar_many) (defBody s_Grammar_many) (defScope s_Grammar_many) .none gkV_Grammar_many gdc_Grammar_many gpm_Grammar_many gan_Grammar_many gcd_Grammar_many gct_Grammar_many), gsl_Grammar_many⟩)
    (mc_Grammar_many : PySem.W.codeIn K gcd_Grammar_many "Grammar.many" = true)
    (mk_Grammar_many : PySem.W.keepIn K (.ref g_Grammar_many) = true)
    (mf_Grammar_many : PySem.W.isFn K (.ref g_Grammar_many) = true)
    {g_Grammar_numbers_of : Addr} {god_Grammar_numbers_of gan_Grammar_numbers_of : Option Addr} {gsl_Grammar_numbers_of : Array (Option Value)} {goc_Grammar_numbers_of gkV_Grammar_numbers_of gdc_Grammar_numbers_of gpm_Grammar_numbers_of gcd_Grammar_numbers_of gct_Grammar_numbers_of : Value}
    (ma_Grammar_numbers_of : PySem.W.findIn K (.ref O_Grammar) "numbers_of" = some (some (.ref g_Grammar_numbers_of)))
    (ml_Grammar_numbers_of : K.lookup g_Grammar_numbers_of = some ⟨goc_Grammar_numbers_of, god_Grammar_numbers_of, .func (PySem.W.fnOf "numbers_of" "Grammar.numbers_of" (defArgs s_Grammar_numbers_of) (defBody s_Grammar_numbers_of) (defScope s_Grammar_numbers_of) .none gkV_Grammar_numbers_of gdc_Grammar_numbers_of gpm_Grammar_numbers_of gan_Grammar_numbers_of gcd_Grammar_numbers_of gct_Grammar_numbers_of), gsl_Grammar_numbers_of⟩)
    (mc_Grammar_numbers_of : PySem.W.codeIn K gcd_Grammar_numbers_of "Grammar.numbers_of" = true)
    (mk_Grammar_numbers_of : PySem.W.keepIn K (.ref g_Grammar_numbers_of) = true)
    (mf_Grammar_numbers_of : PySem.W.isFn K (.ref g_Grammar_numbers_of) = true)
    (ia_Rule : PySem.W.specialIn K (.ref O_Rule) "__getattribute__" = some (some (.builtin "type.__getattribute__")))
    (ib_Rule : PySem.W.readsIn K O_Rule (.type "type") = true)
    (ic_Rule : PySem.W.findCls K (.ref O_Rule) (.type "type") "__init__" = some (.val (.ref g_Rule_init)))
    (ou_CellRule_CellRule : PySem.W.subIn K (.ref O_CellRule) (.ref O_CellRule) = some true)
    (ou_BesideRule_BesideRule : PySem.W.subIn K (.ref O_BesideRule) (.ref O_BesideRule) = some true)
    (ou_BesideRule_CellRule : PySem.W.subIn K (.ref O_BesideRule) (.ref O_CellRule) = some false)
    (ov_BesideRule_CellRule : ¬ O_BesideRule = O_CellRule)
    (ou_BesideRule_TurnRule : PySem.W.subIn K (.ref O_BesideRule) (.ref O_TurnRule) = some false)
    (ov_BesideRule_TurnRule : ¬ O_BesideRule = O_TurnRule)
    (ou_AboveRule_BesideRule : PySem.W.subIn K (.ref O_AboveRule) (.ref O_BesideRule) = some false)
    (ov_AboveRule_BesideRule : ¬ O_AboveRule = O_BesideRule)
    (ou_AboveRule_CellRule : PySem.W.subIn K (.ref O_AboveRule) (.ref O_CellRule) = some false)
    (ov_AboveRule_CellRule : ¬ O_AboveRule = O_CellRule)
    (ou_AboveRule_TurnRule : PySem.W.subIn K (.ref O_AboveRule) (.ref O_TurnRule) = some false)
    (ov_AboveRule_TurnRule : ¬ O_AboveRule = O_TurnRule)
    (ou_TurnRule_CellRule : PySem.W.subIn K (.ref O_TurnRule) (.ref O_CellRule) = some false)
    (ov_TurnRule_CellRule : ¬ O_TurnRule = O_CellRule)
    (ou_TurnRule_TurnRule : PySem.W.subIn K (.ref O_TurnRule) (.ref O_TurnRule) = some true)
    {f_size_of : Addr} {od_size_of an_size_of : Option Addr} {sl_size_of : Array (Option Value)} {oc_size_of kV_size_of dc_size_of pm_size_of cd_size_of ct_size_of : Value} (a_size_of : PySem.W.nsIn K mainGlobals "size_of" = some (some (.ref f_size_of))) (l_size_of : K.lookup f_size_of = some ⟨oc_size_of, od_size_of, .func (PySem.W.fnOf "size_of" "size_of" (defArgs s_size_of) (defBody s_size_of) (defScope s_size_of) .none kV_size_of dc_size_of pm_size_of an_size_of cd_size_of ct_size_of), sl_size_of⟩) (c_size_of : PySem.W.codeIn K cd_size_of "size_of" = true) (k_size_of : PySem.W.keepIn K (.ref f_size_of) = true)
    {f_beside : Addr} {od_beside an_beside : Option Addr} {sl_beside : Array (Option Value)} {oc_beside kV_beside dc_beside pm_beside cd_beside ct_beside : Value} (a_beside : PySem.W.nsIn K mainGlobals "beside" = some (some (.ref f_beside))) (l_beside : K.lookup f_beside = some ⟨oc_beside, od_beside, .func (PySem.W.fnOf "beside" "beside" (defArgs s_beside) (defBody s_beside) (defScope s_beside) .none kV_beside dc_beside pm_beside an_beside cd_beside ct_beside), sl_beside⟩) (c_beside : PySem.W.codeIn K cd_beside "beside" = true) (k_beside : PySem.W.keepIn K (.ref f_beside) = true)
    {f_above : Addr} {od_above an_above : Option Addr} {sl_above : Array (Option Value)} {oc_above kV_above dc_above pm_above cd_above ct_above : Value} (a_above : PySem.W.nsIn K mainGlobals "above" = some (some (.ref f_above))) (l_above : K.lookup f_above = some ⟨oc_above, od_above, .func (PySem.W.fnOf "above" "above" (defArgs s_above) (defBody s_above) (defScope s_above) .none kV_above dc_above pm_above an_above cd_above ct_above), sl_above⟩) (c_above : PySem.W.codeIn K cd_above "above" = true) (k_above : PySem.W.keepIn K (.ref f_above) = true)
    {f_quarter : Addr} {od_quarter an_quarter : Option Addr} {sl_quarter : Array (Option Value)} {oc_quarter kV_quarter dc_quarter pm_quarter cd_quarter ct_quarter : Value} (a_quarter : PySem.W.nsIn K mainGlobals "quarter" = some (some (.ref f_quarter))) (l_quarter : K.lookup f_quarter = some ⟨oc_quarter, od_quarter, .func (PySem.W.fnOf "quarter" "quarter" (defArgs s_quarter) (defBody s_quarter) (defScope s_quarter) .none kV_quarter dc_quarter pm_quarter an_quarter cd_quarter ct_quarter), sl_quarter⟩) (c_quarter : PySem.W.codeIn K cd_quarter "quarter" = true) (k_quarter : PySem.W.keepIn K (.ref f_quarter) = true)
    {f_mirrored : Addr} {od_mirrored an_mirrored : Option Addr} {sl_mirrored : Array (Option Value)} {oc_mirrored kV_mirrored dc_mirrored pm_mirrored cd_mirrored ct_mirrored : Value} (a_mirrored : PySem.W.nsIn K mainGlobals "mirrored" = some (some (.ref f_mirrored))) (l_mirrored : K.lookup f_mirrored = some ⟨oc_mirrored, od_mirrored, .func (PySem.W.fnOf "mirrored" "mirrored" (defArgs s_mirrored) (defBody s_mirrored) (defScope s_mirrored) .none kV_mirrored dc_mirrored pm_mirrored an_mirrored cd_mirrored ct_mirrored), sl_mirrored⟩) (c_mirrored : PySem.W.codeIn K cd_mirrored "mirrored" = true) (k_mirrored : PySem.W.keepIn K (.ref f_mirrored) = true)
    {f_turned : Addr} {od_turned an_turned : Option Addr} {sl_turned : Array (Option Value)} {oc_turned kV_turned dc_turned pm_turned cd_turned ct_turned : Value} (a_turned : PySem.W.nsIn K mainGlobals "turned" = some (some (.ref f_turned))) (l_turned : K.lookup f_turned = some ⟨oc_turned, od_turned, .func (PySem.W.fnOf "turned" "turned" (defArgs s_turned) (defBody s_turned) (defScope s_turned) .none kV_turned dc_turned pm_turned an_turned cd_turned ct_turned), sl_turned⟩) (c_turned : PySem.W.codeIn K cd_turned "turned" = true) (k_turned : PySem.W.keepIn K (.ref f_turned) = true)
    {f_is_name : Addr} {od_is_name an_is_name : Option Addr} {sl_is_name : Array (Option Value)} {oc_is_name kV_is_name dc_is_name pm_is_name cd_is_name ct_is_name : Value} (a_is_name : PySem.W.nsIn K mainGlobals "is_name" = some (some (.ref f_is_name))) (l_is_name : K.lookup f_is_name = some ⟨oc_is_name, od_is_name, .func (PySem.W.fnOf "is_name" "is_name" (defArgs s_is_name) (defBody s_is_name) (defScope s_is_name) .none kV_is_name dc_is_name pm_is_name an_is_name cd_is_name ct_is_name), sl_is_name⟩) (c_is_name : PySem.W.codeIn K cd_is_name "is_name" = true) (k_is_name : PySem.W.keepIn K (.ref f_is_name) = true)
    {f_asked_name : Addr} {od_asked_name an_asked_name : Option Addr} {sl_asked_name : Array (Option Value)} {oc_asked_name kV_asked_name dc_asked_name pm_asked_name cd_asked_name ct_asked_name : Value} (a_asked_name : PySem.W.nsIn K mainGlobals "asked_name" = some (some (.ref f_asked_name))) (l_asked_name : K.lookup f_asked_name = some ⟨oc_asked_name, od_asked_name, .func (PySem.W.fnOf "asked_name" "asked_name" (defArgs s_asked_name) (defBody s_asked_name) (defScope s_asked_name) .none kV_asked_name dc_asked_name pm_asked_name an_asked_name cd_asked_name ct_asked_name), sl_asked_name⟩) (c_asked_name : PySem.W.codeIn K cd_asked_name "asked_name" = true) (k_asked_name : PySem.W.keepIn K (.ref f_asked_name) = true)
    {f_name_fault : Addr} {od_name_fault an_name_fault : Option Addr} {sl_name_fault : Array (Option Value)} {oc_name_fault kV_name_fault dc_name_fault pm_name_fault cd_name_fault ct_name_fault : Value} (a_name_fault : PySem.W.nsIn K mainGlobals "name_fault" = some (some (.ref f_name_fault))) (l_name_fault : K.lookup f_name_fault = some ⟨oc_name_fault, od_name_fault, .func (PySem.W.fnOf "name_fault" "name_fault" (defArgs s_name_fault) (defBody s_name_fault) (defScope s_name_fault) .none kV_name_fault dc_name_fault pm_name_fault an_name_fault cd_name_fault ct_name_fault), sl_name_fault⟩) (c_name_fault : PySem.W.codeIn K cd_name_fault "name_fault" = true) (k_name_fault : PySem.W.keepIn K (.ref f_name_fault) = true)
    {f_made_by : Addr} {od_made_by an_made_by : Option Addr} {sl_made_by : Array (Option Value)} {oc_made_by kV_made_by dc_made_by pm_made_by cd_made_by ct_made_by : Value} (a_made_by : PySem.W.nsIn K mainGlobals "made_by" = some (some (.ref f_made_by))) (l_made_by : K.lookup f_made_by = some ⟨oc_made_by, od_made_by, .func (PySem.W.fnOf "made_by" "made_by" (defArgs s_made_by) (defBody s_made_by) (defScope s_made_by) .none kV_made_by dc_made_by pm_made_by an_made_by cd_made_by ct_made_by), sl_made_by⟩) (c_made_by : PySem.W.codeIn K cd_made_by "made_by" = true) (k_made_by : PySem.W.keepIn K (.ref f_made_by) = true)
    {f_looked_at : Addr} {od_looked_at an_looked_at : Option Addr} {sl_looked_at : Array (Option Value)} {oc_looked_at kV_looked_at dc_looked_at pm_looked_at cd_looked_at ct_looked_at : Value} (a_looked_at : PySem.W.nsIn K mainGlobals "looked_at" = some (some (.ref f_looked_at))) (l_looked_at : K.lookup f_looked_at = some ⟨oc_looked_at, od_looked_at, .func (PySem.W.fnOf "looked_at" "looked_at" (defArgs s_looked_at) (defBody s_looked_at) (defScope s_looked_at) .none kV_looked_at dc_looked_at pm_looked_at an_looked_at cd_looked_at ct_looked_at), sl_looked_at⟩) (c_looked_at : PySem.W.codeIn K cd_looked_at "looked_at" = true) (k_looked_at : PySem.W.keepIn K (.ref f_looked_at) = true)
    {f_tree_fault : Addr} {od_tree_fault an_tree_fault : Option Addr} {sl_tree_fault : Array (Option Value)} {oc_tree_fault kV_tree_fault dc_tree_fault pm_tree_fault cd_tree_fault ct_tree_fault : Value} (a_tree_fault : PySem.W.nsIn K mainGlobals "tree_fault" = some (some (.ref f_tree_fault))) (l_tree_fault : K.lookup f_tree_fault = some ⟨oc_tree_fault, od_tree_fault, .func (PySem.W.fnOf "tree_fault" "tree_fault" (defArgs s_tree_fault) (defBody s_tree_fault) (defScope s_tree_fault) .none kV_tree_fault dc_tree_fault pm_tree_fault an_tree_fault cd_tree_fault ct_tree_fault), sl_tree_fault⟩) (c_tree_fault : PySem.W.codeIn K cd_tree_fault "tree_fault" = true) (k_tree_fault : PySem.W.keepIn K (.ref f_tree_fault) = true)
    {f_laid : Addr} {od_laid an_laid : Option Addr} {sl_laid : Array (Option Value)} {oc_laid kV_laid dc_laid pm_laid cd_laid ct_laid : Value} (a_laid : PySem.W.nsIn K mainGlobals "laid" = some (some (.ref f_laid))) (l_laid : K.lookup f_laid = some ⟨oc_laid, od_laid, .func (PySem.W.fnOf "laid" "laid" (defArgs s_laid) (defBody s_laid) (defScope s_laid) .none kV_laid dc_laid pm_laid an_laid cd_laid ct_laid), sl_laid⟩) (c_laid : PySem.W.codeIn K cd_laid "laid" = true) (k_laid : PySem.W.keepIn K (.ref f_laid) = true)
    {f_numbers_in : Addr} {od_numbers_in an_numbers_in : Option Addr} {sl_numbers_in : Array (Option Value)} {oc_numbers_in kV_numbers_in dc_numbers_in pm_numbers_in cd_numbers_in ct_numbers_in : Value} (a_numbers_in : PySem.W.nsIn K mainGlobals "numbers_in" = some (some (.ref f_numbers_in))) (l_numbers_in : K.lookup f_numbers_in = some ⟨oc_numbers_in, od_numbers_in, .func (PySem.W.fnOf "numbers_in" "numbers_in" (defArgs s_numbers_in) (defBody s_numbers_in) (defScope s_numbers_in) .none kV_numbers_in dc_numbers_in pm_numbers_in an_numbers_in cd_numbers_in ct_numbers_in), sl_numbers_in⟩) (c_numbers_in : PySem.W.codeIn K cd_numbers_in "numbers_in" = true) (k_numbers_in : PySem.W.keepIn K (.ref f_numbers_in) = true)
    {f_cost_of : Addr} {od_cost_of an_cost_of : Option Addr} {sl_cost_of : Array (Option Value)} {oc_cost_of kV_cost_of dc_cost_of pm_cost_of cd_cost_of ct_cost_of : Value} (a_cost_of : PySem.W.nsIn K mainGlobals "cost_of" = some (some (.ref f_cost_of))) (l_cost_of : K.lookup f_cost_of = some ⟨oc_cost_of, od_cost_of, .func (PySem.W.fnOf "cost_of" "cost_of" (defArgs s_cost_of) (defBody s_cost_of) (defScope s_cost_of) .none kV_cost_of dc_cost_of pm_cost_of an_cost_of cd_cost_of ct_cost_of), sl_cost_of⟩) (c_cost_of : PySem.W.codeIn K cd_cost_of "cost_of" = true) (k_cost_of : PySem.W.keepIn K (.ref f_cost_of) = true)
    {f_shares : Addr} {od_shares an_shares : Option Addr} {sl_shares : Array (Option Value)} {oc_shares kV_shares dc_shares pm_shares cd_shares ct_shares : Value} (a_shares : PySem.W.nsIn K mainGlobals "shares" = some (some (.ref f_shares))) (l_shares : K.lookup f_shares = some ⟨oc_shares, od_shares, .func (PySem.W.fnOf "shares" "shares" (defArgs s_shares) (defBody s_shares) (defScope s_shares) .none kV_shares dc_shares pm_shares an_shares cd_shares ct_shares), sl_shares⟩) (c_shares : PySem.W.codeIn K cd_shares "shares" = true) (k_shares : PySem.W.keepIn K (.ref f_shares) = true)
    {f_before_turning : Addr} {od_before_turning an_before_turning : Option Addr} {sl_before_turning : Array (Option Value)} {oc_before_turning kV_before_turning dc_before_turning pm_before_turning cd_before_turning ct_before_turning : Value} (a_before_turning : PySem.W.nsIn K mainGlobals "before_turning" = some (some (.ref f_before_turning))) (l_before_turning : K.lookup f_before_turning = some ⟨oc_before_turning, od_before_turning, .func (PySem.W.fnOf "before_turning" "before_turning" (defArgs s_before_turning) (defBody s_before_turning) (defScope s_before_turning) .none kV_before_turning dc_before_turning pm_before_turning an_before_turning cd_before_turning ct_before_turning), sl_before_turning⟩) (c_before_turning : PySem.W.codeIn K cd_before_turning "before_turning" = true) (k_before_turning : PySem.W.keepIn K (.ref f_before_turning) = true)
    {f_count_trees : Addr} {od_count_trees an_count_trees : Option Addr} {sl_count_trees : Array (Option Value)} {oc_count_trees kV_count_trees dc_count_trees pm_count_trees cd_count_trees ct_count_trees : Value} (a_count_trees : PySem.W.nsIn K mainGlobals "count_trees" = some (some (.ref f_count_trees))) (l_count_trees : K.lookup f_count_trees = some ⟨oc_count_trees, od_count_trees, .func (PySem.W.fnOf "count_trees" "count_trees" (defArgs s_count_trees) (defBody s_count_trees) (defScope s_count_trees) .none kV_count_trees dc_count_trees pm_count_trees an_count_trees cd_count_trees ct_count_trees), sl_count_trees⟩) (c_count_trees : PySem.W.codeIn K cd_count_trees "count_trees" = true) (k_count_trees : PySem.W.keepIn K (.ref f_count_trees) = true)
    {f_tree_at : Addr} {od_tree_at an_tree_at : Option Addr} {sl_tree_at : Array (Option Value)} {oc_tree_at kV_tree_at dc_tree_at pm_tree_at cd_tree_at ct_tree_at : Value} (a_tree_at : PySem.W.nsIn K mainGlobals "tree_at" = some (some (.ref f_tree_at))) (l_tree_at : K.lookup f_tree_at = some ⟨oc_tree_at, od_tree_at, .func (PySem.W.fnOf "tree_at" "tree_at" (defArgs s_tree_at) (defBody s_tree_at) (defScope s_tree_at) .none kV_tree_at dc_tree_at pm_tree_at an_tree_at cd_tree_at ct_tree_at), sl_tree_at⟩) (c_tree_at : PySem.W.codeIn K cd_tree_at "tree_at" = true) (k_tree_at : PySem.W.keepIn K (.ref f_tree_at) = true)
    {f_number_of : Addr} {od_number_of an_number_of : Option Addr} {sl_number_of : Array (Option Value)} {oc_number_of kV_number_of dc_number_of pm_number_of cd_number_of ct_number_of : Value} (a_number_of : PySem.W.nsIn K mainGlobals "number_of" = some (some (.ref f_number_of))) (l_number_of : K.lookup f_number_of = some ⟨oc_number_of, od_number_of, .func (PySem.W.fnOf "number_of" "number_of" (defArgs s_number_of) (defBody s_number_of) (defScope s_number_of) .none kV_number_of dc_number_of pm_number_of an_number_of cd_number_of ct_number_of), sl_number_of⟩) (c_number_of : PySem.W.codeIn K cd_number_of "number_of" = true) (k_number_of : PySem.W.keepIn K (.ref f_number_of) = true)
    {f_trees_of : Addr} {od_trees_of an_trees_of : Option Addr} {sl_trees_of : Array (Option Value)} {oc_trees_of kV_trees_of dc_trees_of pm_trees_of cd_trees_of ct_trees_of : Value} (a_trees_of : PySem.W.nsIn K mainGlobals "trees_of" = some (some (.ref f_trees_of))) (l_trees_of : K.lookup f_trees_of = some ⟨oc_trees_of, od_trees_of, .func (PySem.W.fnOf "trees_of" "trees_of" (defArgs s_trees_of) (defBody s_trees_of) (defScope s_trees_of) .none kV_trees_of dc_trees_of pm_trees_of an_trees_of cd_trees_of ct_trees_of), sl_trees_of⟩) (c_trees_of : PySem.W.codeIn K cd_trees_of "trees_of" = true) (k_trees_of : PySem.W.keepIn K (.ref f_trees_of) = true)
    {f_are_signs : Addr} {od_are_signs an_are_signs : Option Addr} {sl_are_signs : Array (Option Value)} {oc_are_signs kV_are_signs dc_are_signs pm_are_signs cd_are_signs ct_are_signs : Value} (a_are_signs : PySem.W.nsIn K mainGlobals "are_signs" = some (some (.ref f_are_signs))) (l_are_signs : K.lookup f_are_signs = some ⟨oc_are_signs, od_are_signs, .func (PySem.W.fnOf "are_signs" "are_signs" (defArgs s_are_signs) (defBody s_are_signs) (defScope s_are_signs) .none kV_are_signs dc_are_signs pm_are_signs an_are_signs cd_are_signs ct_are_signs), sl_are_signs⟩) (c_are_signs : PySem.W.codeIn K cd_are_signs "are_signs" = true) (k_are_signs : PySem.W.keepIn K (.ref f_are_signs) = true)
    {f_names_met : Addr} {od_names_met an_names_met : Option Addr} {sl_names_met : Array (Option Value)} {oc_names_met kV_names_met dc_names_met pm_names_met cd_names_met ct_names_met : Value} (a_names_met : PySem.W.nsIn K mainGlobals "names_met" = some (some (.ref f_names_met))) (l_names_met : K.lookup f_names_met = some ⟨oc_names_met, od_names_met, .func (PySem.W.fnOf "names_met" "names_met" (defArgs s_names_met) (defBody s_names_met) (defScope s_names_met) .none kV_names_met dc_names_met pm_names_met an_names_met cd_names_met ct_names_met), sl_names_met⟩) (c_names_met : PySem.W.codeIn K cd_names_met "names_met" = true) (k_names_met : PySem.W.keepIn K (.ref f_names_met) = true)
    {f_asked_rules : Addr} {od_asked_rules an_asked_rules : Option Addr} {sl_asked_rules : Array (Option Value)} {oc_asked_rules kV_asked_rules dc_asked_rules pm_asked_rules cd_asked_rules ct_asked_rules : Value} (a_asked_rules : PySem.W.nsIn K mainGlobals "asked_rules" = some (some (.ref f_asked_rules))) (l_asked_rules : K.lookup f_asked_rules = some ⟨oc_asked_rules, od_asked_rules, .func (PySem.W.fnOf "asked_rules" "asked_rules" (defArgs s_asked_rules) (defBody s_asked_rules) (defScope s_asked_rules) .none kV_asked_rules dc_asked_rules pm_asked_rules an_asked_rules cd_asked_rules ct_asked_rules), sl_asked_rules⟩) (c_asked_rules : PySem.W.codeIn K cd_asked_rules "asked_rules" = true) (k_asked_rules : PySem.W.keepIn K (.ref f_asked_rules) = true)
    {f_law_cell : Addr} {od_law_cell an_law_cell : Option Addr} {sl_law_cell : Array (Option Value)} {oc_law_cell kV_law_cell dc_law_cell pm_law_cell cd_law_cell ct_law_cell : Value} (a_law_cell : PySem.W.nsIn K mainGlobals "_law_cell" = some (some (.ref f_law_cell))) (l_law_cell : K.lookup f_law_cell = some ⟨oc_law_cell, od_law_cell, .func (PySem.W.fnOf "_law_cell" "_law_cell" (defArgs s_law_cell) (defBody s_law_cell) (defScope s_law_cell) .none kV_law_cell dc_law_cell pm_law_cell an_law_cell cd_law_cell ct_law_cell), sl_law_cell⟩) (c_law_cell : PySem.W.codeIn K cd_law_cell "_law_cell" = true) (k_law_cell : PySem.W.keepIn K (.ref f_law_cell) = true)
    {f_law_cells : Addr} {od_law_cells an_law_cells : Option Addr} {sl_law_cells : Array (Option Value)} {oc_law_cells kV_law_cells dc_law_cells pm_law_cells cd_law_cells ct_law_cells : Value} (a_law_cells : PySem.W.nsIn K mainGlobals "_law_cells" = some (some (.ref f_law_cells))) (l_law_cells : K.lookup f_law_cells = some ⟨oc_law_cells, od_law_cells, .func (PySem.W.fnOf "_law_cells" "_law_cells" (defArgs s_law_cells) (defBody s_law_cells) (defScope s_law_cells) .none kV_law_cells dc_law_cells pm_law_cells an_law_cells cd_law_cells ct_law_cells), sl_law_cells⟩) (c_law_cells : PySem.W.codeIn K cd_law_cells "_law_cells" = true) (k_law_cells : PySem.W.keepIn K (.ref f_law_cells) = true)
    {f_law_signs : Addr} {od_law_signs an_law_signs : Option Addr} {sl_law_signs : Array (Option Value)} {oc_law_signs kV_law_signs dc_law_signs pm_law_signs cd_law_signs ct_law_signs : Value} (a_law_signs : PySem.W.nsIn K mainGlobals "_law_signs" = some (some (.ref f_law_signs))) (l_law_signs : K.lookup f_law_signs = some ⟨oc_law_signs, od_law_signs, .func (PySem.W.fnOf "_law_signs" "_law_signs" (defArgs s_law_signs) (defBody s_law_signs) (defScope s_law_signs) .none kV_law_signs dc_law_signs pm_law_signs an_law_signs cd_law_signs ct_law_signs), sl_law_signs⟩) (c_law_signs : PySem.W.codeIn K cd_law_signs "_law_signs" = true) (k_law_signs : PySem.W.keepIn K (.ref f_law_signs) = true)
    {f_law_names : Addr} {od_law_names an_law_names : Option Addr} {sl_law_names : Array (Option Value)} {oc_law_names kV_law_names dc_law_names pm_law_names cd_law_names ct_law_names : Value} (a_law_names : PySem.W.nsIn K mainGlobals "_law_names" = some (some (.ref f_law_names))) (l_law_names : K.lookup f_law_names = some ⟨oc_law_names, od_law_names, .func (PySem.W.fnOf "_law_names" "_law_names" (defArgs s_law_names) (defBody s_law_names) (defScope s_law_names) .none kV_law_names dc_law_names pm_law_names an_law_names cd_law_names ct_law_names), sl_law_names⟩) (c_law_names : PySem.W.codeIn K cd_law_names "_law_names" = true) (k_law_names : PySem.W.keepIn K (.ref f_law_names) = true)
    {f_law_rule : Addr} {od_law_rule an_law_rule : Option Addr} {sl_law_rule : Array (Option Value)} {oc_law_rule kV_law_rule dc_law_rule pm_law_rule cd_law_rule ct_law_rule : Value} (a_law_rule : PySem.W.nsIn K mainGlobals "_law_rule" = some (some (.ref f_law_rule))) (l_law_rule : K.lookup f_law_rule = some ⟨oc_law_rule, od_law_rule, .func (PySem.W.fnOf "_law_rule" "_law_rule" (defArgs s_law_rule) (defBody s_law_rule) (defScope s_law_rule) .none kV_law_rule dc_law_rule pm_law_rule an_law_rule cd_law_rule ct_law_rule), sl_law_rule⟩) (c_law_rule : PySem.W.codeIn K cd_law_rule "_law_rule" = true) (k_law_rule : PySem.W.keepIn K (.ref f_law_rule) = true)
    {f_law_grammar : Addr} {od_law_grammar an_law_grammar : Option Addr} {sl_law_grammar : Array (Option Value)} {oc_law_grammar kV_law_grammar dc_law_grammar pm_law_grammar cd_law_grammar ct_law_grammar : Value} (a_law_grammar : PySem.W.nsIn K mainGlobals "_law_grammar" = some (some (.ref f_law_grammar))) (l_law_grammar : K.lookup f_law_grammar = some ⟨oc_law_grammar, od_law_grammar, .func (PySem.W.fnOf "_law_grammar" "_law_grammar" (defArgs s_law_grammar) (defBody s_law_grammar) (defScope s_law_grammar) .none kV_law_grammar dc_law_grammar pm_law_grammar an_law_grammar cd_law_grammar ct_law_grammar), sl_law_grammar⟩) (c_law_grammar : PySem.W.codeIn K cd_law_grammar "_law_grammar" = true) (k_law_grammar : PySem.W.keepIn K (.ref f_law_grammar) = true)
    {f_law_turned : Addr} {od_law_turned an_law_turned : Option Addr} {sl_law_turned : Array (Option Value)} {oc_law_turned kV_law_turned dc_law_turned pm_law_turned cd_law_turned ct_law_turned : Value} (a_law_turned : PySem.W.nsIn K mainGlobals "_law_turned" = some (some (.ref f_law_turned))) (l_law_turned : K.lookup f_law_turned = some ⟨oc_law_turned, od_law_turned, .func (PySem.W.fnOf "_law_turned" "_law_turned" (defArgs s_law_turned) (defBody s_law_turned) (defScope s_law_turned) .none kV_law_turned dc_law_turned pm_law_turned an_law_turned cd_law_turned ct_law_turned), sl_law_turned⟩) (c_law_turned : PySem.W.codeIn K cd_law_turned "_law_turned" = true) (k_law_turned : PySem.W.keepIn K (.ref f_law_turned) = true)
    {f_law_joined : Addr} {od_law_joined an_law_joined : Option Addr} {sl_law_joined : Array (Option Value)} {oc_law_joined kV_law_joined dc_law_joined pm_law_joined cd_law_joined ct_law_joined : Value} (a_law_joined : PySem.W.nsIn K mainGlobals "_law_joined" = some (some (.ref f_law_joined))) (l_law_joined : K.lookup f_law_joined = some ⟨oc_law_joined, od_law_joined, .func (PySem.W.fnOf "_law_joined" "_law_joined" (defArgs s_law_joined) (defBody s_law_joined) (defScope s_law_joined) .none kV_law_joined dc_law_joined pm_law_joined an_law_joined cd_law_joined ct_law_joined), sl_law_joined⟩) (c_law_joined : PySem.W.codeIn K cd_law_joined "_law_joined" = true) (k_law_joined : PySem.W.keepIn K (.ref f_law_joined) = true)
    {f_law_noted : Addr} {od_law_noted an_law_noted : Option Addr} {sl_law_noted : Array (Option Value)} {oc_law_noted kV_law_noted dc_law_noted pm_law_noted cd_law_noted ct_law_noted : Value} (a_law_noted : PySem.W.nsIn K mainGlobals "_law_noted" = some (some (.ref f_law_noted))) (l_law_noted : K.lookup f_law_noted = some ⟨oc_law_noted, od_law_noted, .func (PySem.W.fnOf "_law_noted" "_law_noted" (defArgs s_law_noted) (defBody s_law_noted) (defScope s_law_noted) .none kV_law_noted dc_law_noted pm_law_noted an_law_noted cd_law_noted ct_law_noted), sl_law_noted⟩) (c_law_noted : PySem.W.codeIn K cd_law_noted "_law_noted" = true) (k_law_noted : PySem.W.keepIn K (.ref f_law_noted) = true)
    {f_law_put : Addr} {od_law_put an_law_put : Option Addr} {sl_law_put : Array (Option Value)} {oc_law_put kV_law_put dc_law_put pm_law_put cd_law_put ct_law_put : Value} (a_law_put : PySem.W.nsIn K mainGlobals "_law_put" = some (some (.ref f_law_put))) (l_law_put : K.lookup f_law_put = some ⟨oc_law_put, od_law_put, .func (PySem.W.fnOf "_law_put" "_law_put" (defArgs s_law_put) (defBody s_law_put) (defScope s_law_put) .none kV_law_put dc_law_put pm_law_put an_law_put cd_law_put ct_law_put), sl_law_put⟩) (c_law_put : PySem.W.codeIn K cd_law_put "_law_put" = true) (k_law_put : PySem.W.keepIn K (.ref f_law_put) = true)
    {f_law_step : Addr} {od_law_step an_law_step : Option Addr} {sl_law_step : Array (Option Value)} {oc_law_step kV_law_step dc_law_step pm_law_step cd_law_step ct_law_step : Value} (a_law_step : PySem.W.nsIn K mainGlobals "_law_step" = some (some (.ref f_law_step))) (l_law_step : K.lookup f_law_step = some ⟨oc_law_step, od_law_step, .func (PySem.W.fnOf "_law_step" "_law_step" (defArgs s_law_step) (defBody s_law_step) (defScope s_law_step) .none kV_law_step dc_law_step pm_law_step an_law_step cd_law_step ct_law_step), sl_law_step⟩) (c_law_step : PySem.W.codeIn K cd_law_step "_law_step" = true) (k_law_step : PySem.W.keepIn K (.ref f_law_step) = true)
    {f_law_grown : Addr} {od_law_grown an_law_grown : Option Addr} {sl_law_grown : Array (Option Value)} {oc_law_grown kV_law_grown dc_law_grown pm_law_grown cd_law_grown ct_law_grown : Value} (a_law_grown : PySem.W.nsIn K mainGlobals "_law_grown" = some (some (.ref f_law_grown))) (l_law_grown : K.lookup f_law_grown = some ⟨oc_law_grown, od_law_grown, .func (PySem.W.fnOf "_law_grown" "_law_grown" (defArgs s_law_grown) (defBody s_law_grown) (defScope s_law_grown) .none kV_law_grown dc_law_grown pm_law_grown an_law_grown cd_law_grown ct_law_grown), sl_law_grown⟩) (c_law_grown : PySem.W.codeIn K cd_law_grown "_law_grown" = true) (k_law_grown : PySem.W.keepIn K (.ref f_law_grown) = true)
    {f_law_error : Addr} {od_law_error an_law_error : Option Addr} {sl_law_error : Array (Option Value)} {oc_law_error kV_law_error dc_law_error pm_law_error cd_law_error ct_law_error : Value} (a_law_error : PySem.W.nsIn K mainGlobals "_law_error" = some (some (.ref f_law_error))) (l_law_error : K.lookup f_law_error = some ⟨oc_law_error, od_law_error, .func (PySem.W.fnOf "_law_error" "_law_error" (defArgs s_law_error) (defBody s_law_error) (defScope s_law_error) .none kV_law_error dc_law_error pm_law_error an_law_error cd_law_error ct_law_error), sl_law_error⟩) (c_law_error : PySem.W.codeIn K cd_law_error "_law_error" = true) (k_law_error : PySem.W.keepIn K (.ref f_law_error) = true)
    {f_law_no_number : Addr} {od_law_no_number an_law_no_number : Option Addr} {sl_law_no_number : Array (Option Value)} {oc_law_no_number kV_law_no_number dc_law_no_number pm_law_no_number cd_law_no_number ct_law_no_number : Value} (a_law_no_number : PySem.W.nsIn K mainGlobals "_law_no_number" = some (some (.ref f_law_no_number))) (l_law_no_number : K.lookup f_law_no_number = some ⟨oc_law_no_number, od_law_no_number, .func (PySem.W.fnOf "_law_no_number" "_law_no_number" (defArgs s_law_no_number) (defBody s_law_no_number) (defScope s_law_no_number) .none kV_law_no_number dc_law_no_number pm_law_no_number an_law_no_number cd_law_no_number ct_law_no_number), sl_law_no_number⟩) (c_law_no_number : PySem.W.codeIn K cd_law_no_number "_law_no_number" = true) (k_law_no_number : PySem.W.keepIn K (.ref f_law_no_number) = true)
    {f_law_no_name : Addr} {od_law_no_name an_law_no_name : Option Addr} {sl_law_no_name : Array (Option Value)} {oc_law_no_name kV_law_no_name dc_law_no_name pm_law_no_name cd_law_no_name ct_law_no_name : Value} (a_law_no_name : PySem.W.nsIn K mainGlobals "_law_no_name" = some (some (.ref f_law_no_name))) (l_law_no_name : K.lookup f_law_no_name = some ⟨oc_law_no_name, od_law_no_name, .func (PySem.W.fnOf "_law_no_name" "_law_no_name" (defArgs s_law_no_name) (defBody s_law_no_name) (defScope s_law_no_name) .none kV_law_no_name dc_law_no_name pm_law_no_name an_law_no_name cd_law_no_name ct_law_no_name), sl_law_no_name⟩) (c_law_no_name : PySem.W.codeIn K cd_law_no_name "_law_no_name" = true) (k_law_no_name : PySem.W.keepIn K (.ref f_law_no_name) = true)
    {f_law_spoilt : Addr} {od_law_spoilt an_law_spoilt : Option Addr} {sl_law_spoilt : Array (Option Value)} {oc_law_spoilt kV_law_spoilt dc_law_spoilt pm_law_spoilt cd_law_spoilt ct_law_spoilt : Value} (a_law_spoilt : PySem.W.nsIn K mainGlobals "_law_spoilt" = some (some (.ref f_law_spoilt))) (l_law_spoilt : K.lookup f_law_spoilt = some ⟨oc_law_spoilt, od_law_spoilt, .func (PySem.W.fnOf "_law_spoilt" "_law_spoilt" (defArgs s_law_spoilt) (defBody s_law_spoilt) (defScope s_law_spoilt) .none kV_law_spoilt dc_law_spoilt pm_law_spoilt an_law_spoilt cd_law_spoilt ct_law_spoilt), sl_law_spoilt⟩) (c_law_spoilt : PySem.W.codeIn K cd_law_spoilt "_law_spoilt" = true) (k_law_spoilt : PySem.W.keepIn K (.ref f_law_spoilt) = true)
    {f_law_spoilt_within : Addr} {od_law_spoilt_within an_law_spoilt_within : Option Addr} {sl_law_spoilt_within : Array (Option Value)} {oc_law_spoilt_within kV_law_spoilt_within dc_law_spoilt_within pm_law_spoilt_within cd_law_spoilt_within ct_law_spoilt_within : Value} (a_law_spoilt_within : PySem.W.nsIn K mainGlobals "_law_spoilt_within" = some (some (.ref f_law_spoilt_within))) (l_law_spoilt_within : K.lookup f_law_spoilt_within = some ⟨oc_law_spoilt_within, od_law_spoilt_within, .func (PySem.W.fnOf "_law_spoilt_within" "_law_spoilt_within" (defArgs s_law_spoilt_within) (defBody s_law_spoilt_within) (defScope s_law_spoilt_within) .none kV_law_spoilt_within dc_law_spoilt_within pm_law_spoilt_within an_law_spoilt_within cd_law_spoilt_within ct_law_spoilt_within), sl_law_spoilt_within⟩) (c_law_spoilt_within : PySem.W.codeIn K cd_law_spoilt_within "_law_spoilt_within" = true) (k_law_spoilt_within : PySem.W.keepIn K (.ref f_law_spoilt_within) = true)
    {f_law_why : Addr} {od_law_why an_law_why : Option Addr} {sl_law_why : Array (Option Value)} {oc_law_why kV_law_why dc_law_why pm_law_why cd_law_why ct_law_why : Value} (a_law_why : PySem.W.nsIn K mainGlobals "_law_why" = some (some (.ref f_law_why))) (l_law_why : K.lookup f_law_why = some ⟨oc_law_why, od_law_why, .func (PySem.W.fnOf "_law_why" "_law_why" (defArgs s_law_why) (defBody s_law_why) (defScope s_law_why) .none kV_law_why dc_law_why pm_law_why an_law_why cd_law_why ct_law_why), sl_law_why⟩) (c_law_why : PySem.W.codeIn K cd_law_why "_law_why" = true) (k_law_why : PySem.W.keepIn K (.ref f_law_why) = true)
    : Txt K mg := ⟨PySem.W.mg_none_of X G zb_ValueError,
    PySem.W.mg_none_of X G zb_all,
    PySem.W.mg_none_of X G zb_enumerate,
    PySem.W.mg_none_of X G zb_int,
    PySem.W.mg_none_of X G zb_isinstance,
    PySem.W.mg_none_of X G zb_len,
    PySem.W.mg_none_of X G zb_list,
    PySem.W.mg_none_of X G zb_range,
    PySem.W.mg_none_of X G zb_reversed,
    PySem.W.mg_none_of X G zb_set,
    PySem.W.mg_none_of X G zb_sum,
    PySem.W.mg_none_of X G zb_tuple,
    PySem.W.mg_none_of X G zb_zip,
    ⟨_, PySem.W.mg_of X G zc_MOST⟩,
    ⟨_, PySem.W.mg_of X G zc_MIRROR⟩,
    ⟨_, PySem.W.mg_of X G zc_CAPITALS⟩,
    ⟨_, PySem.W.mg_of X G zc_SMALL⟩,
    ⟨_, PySem.W.mg_of X G zc_MOST_LETTERS⟩,
    ⟨_, PySem.W.mg_of X G zc_MOST_COST⟩,
    ⟨_, PySem.W.mg_of X G zc_MOST_SIGNS⟩,
    ⟨_, PySem.W.mg_of X G zc_MOST_RULES⟩,
    ⟨_, PySem.W.mg_of X G zc_MOST_NAMES⟩,
    ⟨C_QuiltError, ⟨xa_QuiltError, xk_QuiltError, xt_QuiltError, xg_QuiltError, xh_QuiltError, xs_QuiltError, xd_QuiltError, xc_QuiltError, xn, xq, xm_QuiltError⟩, PySem.W.mg_of X G xa_QuiltError⟩,
    ⟨C_NoFit, ⟨xa_NoFit, xk_NoFit, xt_NoFit, xg_NoFit, xh_NoFit, xs_NoFit, xd_NoFit, xc_NoFit, xn, xq, xm_NoFit⟩, PySem.W.mg_of X G xa_NoFit⟩,
    ⟨C_NoRule, ⟨xa_NoRule, xk_NoRule, xt_NoRule, xg_NoRule, xh_NoRule, xs_NoRule, xd_NoRule, xc_NoRule, xn, xq, xm_NoRule⟩, PySem.W.mg_of X G xa_NoRule⟩,
    ⟨C_NoGrammar, ⟨xa_NoGrammar, xk_NoGrammar, xt_NoGrammar, xg_NoGrammar, xh_NoGrammar, xs_NoGrammar, xd_NoGrammar, xc_NoGrammar, xn, xq, xm_NoGrammar⟩, PySem.W.mg_of X G xa_NoGrammar⟩,
    ⟨C_NoTree, ⟨xa_NoTree, xk_NoTree, xt_NoTree, xg_NoTree, xh_NoTree, xs_NoTree, xd_NoTree, xc_NoTree, xn, xq, xm_NoTree⟩, PySem.W.mg_of X G xa_NoTree⟩,
    ⟨C_NoName, ⟨xa_NoName, xk_NoName, xt_NoName, xg_NoName, xh_NoName, xs_NoName, xd_NoName, xc_NoName, xn, xq, xm_NoName⟩, PySem.W.mg_of X G xa_NoName⟩,
    ⟨C_TooMany, ⟨xa_TooMany, xk_TooMany, xt_TooMany, xg_TooMany, xh_TooMany, xs_TooMany, xd_TooMany, xc_TooMany, xn, xq, xm_TooMany⟩, PySem.W.mg_of X G xa_TooMany⟩,
    ⟨C_NoNumber, ⟨xa_NoNumber, xk_NoNumber, xt_NoNumber, xg_NoNumber, xh_NoNumber, xs_NoNumber, xd_NoNumber, xc_NoNumber, xn, xq, xm_NoNumber⟩, PySem.W.mg_of X G xa_NoNumber⟩,
    XPlain.mk xa_NoFit xp_NoFit,
    XPlain.mk xa_NoRule xp_NoRule,
    ⟨C_NoTree, fI_NoTree, _, xa_NoTree, ⟨⟨_, _, _, _, _, _, _, _, _, _, _, _, _, _, _, xl_NoTree, xv_NoTree⟩, xw_NoTree, xs_NoTree, xt_NoTree, xk_NoTree⟩, xf_NoTree, xi_NoTree, xj_NoTree, fun_mk xo_NoTree xu_NoTree xz_NoTree, (fun_mk (st := s_NoTree_init) xo_NoTree xu_NoTree xz_NoTree).binds fun _ _ _ _ _ _ => ar2 fun _ _ => rfl⟩,
    XPlain.mk xa_NoNumber xp_NoNumber,
    ⟨C_NoGrammar, fI_NoGrammar, _, xa_NoGrammar, ⟨⟨_, _, _, _, _, _, _, _, _, _, _, _, _, _, _, xl_NoGrammar, xv_NoGrammar⟩, xw_NoGrammar, xs_NoGrammar, xt_NoGrammar, xk_NoGrammar⟩, xf_NoGrammar, xi_NoGrammar, xj_NoGrammar, fun_mk xo_NoGrammar xu_NoGrammar xz_NoGrammar, (fun_mk (st := s_NoGrammar_init) xo_NoGrammar xu_NoGrammar xz_NoGrammar).binds fun _ _ _ _ _ _ => ar2 fun _ _ => rfl⟩,
    XPlain.mk xa_NoName xp_NoName,
    ⟨C_QuiltError, PySem.W.mg_of X G xa_QuiltError, qs_QuiltError, qr_QuiltError, qf_QuiltError⟩,
    XSub.mk xa_NoFit xa_NoFit xt_NoFit xs_NoFit xd_NoFit y_NoFit_NoFit (fun _ => rfl),
    XSub.mk xa_NoTree xa_QuiltError xt_QuiltError xs_QuiltError xd_QuiltError y_NoTree_QuiltError (fun _ => rfl),
    XSub.mk xa_NoTree xa_NoNumber xt_NoNumber xs_NoNumber xd_NoNumber y_NoTree_NoNumber (fun e => absurd e d_NoTree_NoNumber),
    XSub.mk xa_NoTree xa_NoTree xt_NoTree xs_NoTree xd_NoTree y_NoTree_NoTree (fun _ => rfl),
    XSub.mk xa_NoNumber xa_QuiltError xt_QuiltError xs_QuiltError xd_QuiltError y_NoNumber_QuiltError (fun _ => rfl),
    XSub.mk xa_NoNumber xa_NoName xt_NoName xs_NoName xd_NoName y_NoNumber_NoName (fun e => absurd e d_NoNumber_NoName),
    XSub.mk xa_NoNumber xa_NoNumber xt_NoNumber xs_NoNumber xd_NoNumber y_NoNumber_NoNumber (fun _ => rfl),
    XSub.mk xa_NoNumber xa_TooMany xt_TooMany xs_TooMany xd_TooMany y_NoNumber_TooMany (fun e => absurd e d_NoNumber_TooMany),
    XSubT.mk (by decide +kernel) xa_NoNumber y_NoNumber_ValueError,
    XSub.mk xa_NoName xa_QuiltError xt_QuiltError xs_QuiltError xd_QuiltError y_NoName_QuiltError (fun _ => rfl),
    XSub.mk xa_NoName xa_NoName xt_NoName xs_NoName xd_NoName y_NoName_NoName (fun _ => rfl),
    XSub.mk xa_NoName xa_NoNumber xt_NoNumber xs_NoNumber xd_NoNumber y_NoName_NoNumber (fun e => absurd e d_NoName_NoNumber),
    XSub.mk xa_NoName xa_TooMany xt_TooMany xs_TooMany xd_TooMany y_NoName_TooMany (fun e => absurd e d_NoName_TooMany),
    ⟨O_Rule, ⟨oa_Rule, ⟨ob_Rule, oc_Rule, od_Rule, oe_Rule⟩, of_Rule, og_Rule, oh_Rule, oi_Rule, xn, xq, oj_Rule⟩, PySem.W.mg_of X G oa_Rule⟩,
    ⟨O_CellRule, ⟨oa_CellRule, ⟨ob_CellRule, oc_CellRule, od_CellRule, oe_CellRule⟩, of_CellRule, og_CellRule, oh_CellRule, oi_CellRule, xn, xq, oj_CellRule⟩, PySem.W.mg_of X G oa_CellRule⟩,
    ⟨O_BesideRule, ⟨oa_BesideRule, ⟨ob_BesideRule, oc_BesideRule, od_BesideRule, oe_BesideRule⟩, of_BesideRule, og_BesideRule, oh_BesideRule, oi_BesideRule, xn, xq, oj_BesideRule⟩, PySem.W.mg_of X G oa_BesideRule⟩,
    ⟨O_AboveRule, ⟨oa_AboveRule, ⟨ob_AboveRule, oc_AboveRule, od_AboveRule, oe_AboveRule⟩, of_AboveRule, og_AboveRule, oh_AboveRule, oi_AboveRule, xn, xq, oj_AboveRule⟩, PySem.W.mg_of X G oa_AboveRule⟩,
    ⟨O_TurnRule, ⟨oa_TurnRule, ⟨ob_TurnRule, oc_TurnRule, od_TurnRule, oe_TurnRule⟩, of_TurnRule, og_TurnRule, oh_TurnRule, oi_TurnRule, xn, xq, oj_TurnRule⟩, PySem.W.mg_of X G oa_TurnRule⟩,
    ⟨O_Counter, ⟨oa_Counter, ⟨ob_Counter, oc_Counter, od_Counter, oe_Counter⟩, of_Counter, og_Counter, oh_Counter, oi_Counter, xn, xq, oj_Counter⟩, PySem.W.mg_of X G oa_Counter⟩,
    ⟨O_Grammar, ⟨oa_Grammar, ⟨ob_Grammar, oc_Grammar, od_Grammar, oe_Grammar⟩, of_Grammar, og_Grammar, oh_Grammar, oi_Grammar, xn, xq, oj_Grammar⟩, PySem.W.mg_of X G oa_Grammar⟩,
    ⟨O_Rule, g_Rule_init, _, oa_Rule, ⟨ma_Rule_init, mf_Rule_init, mk_Rule_init⟩, fun_mk ml_Rule_init mc_Rule_init mk_Rule_init, (fun_mk (st := s_Rule_init) ml_Rule_init mc_Rule_init mk_Rule_init).binds fun _ _ _ _ _ _ => ar3 fun _ _ _ => rfl⟩,
    fun D e => ns_one oa_CellRule e ▸ na_CellRule_sign,
    fun D e => ns_one oa_CellRule e ▸ na_CellRule_name,
    fun D e => ns_one oa_CellRule e ▸ na_CellRule_cost,
    ⟨O_CellRule, g_CellRule_init, _, oa_CellRule, ⟨ma_CellRule_init, mf_CellRule_init, mk_CellRule_init⟩, fun_mk ml_CellRule_init mc_CellRule_init mk_CellRule_init, (fun_mk (st := s_CellRule_init) ml_CellRule_init mc_CellRule_init mk_CellRule_init).binds fun _ _ _ _ _ _ => ar4 fun _ _ _ _ => rfl⟩,
    ⟨O_CellRule, g_CellRule_made, _, oa_CellRule, ⟨ma_CellRule_made, mf_CellRule_made, mk_CellRule_made⟩, fun_mk ml_CellRule_made mc_CellRule_made mk_CellRule_made, (fun_mk (st := s_CellRule_made) ml_CellRule_made mc_CellRule_made mk_CellRule_made).binds fun _ _ _ _ _ _ => ar2 fun _ _ => rfl⟩,
    ⟨O_CellRule, g_Rule_parts, _, oa_CellRule, ⟨ma_CellRule_parts, mf_Rule_parts, mk_Rule_parts⟩, fun_mk ml_Rule_parts mc_Rule_parts mk_Rule_parts, (fun_mk (st := s_Rule_parts) ml_Rule_parts mc_Rule_parts mk_Rule_parts).binds fun _ _ _ _ _ _ => ar1 fun _ => rfl⟩,
    fun D e => ns_one oa_BesideRule e ▸ na_BesideRule_one,
    fun D e => ns_one oa_BesideRule e ▸ na_BesideRule_other,
    fun D e => ns_one oa_BesideRule e ▸ na_BesideRule_name,
    fun D e => ns_one oa_BesideRule e ▸ na_BesideRule_cost,
    ⟨O_BesideRule, g_BesideRule_init, _, oa_BesideRule, ⟨ma_BesideRule_init, mf_BesideRule_init, mk_BesideRule_init⟩, fun_mk ml_BesideRule_init mc_BesideRule_init mk_BesideRule_init, (fun_mk (st := s_BesideRule_init) ml_BesideRule_init mc_BesideRule_init mk_BesideRule_init).binds fun _ _ _ _ _ _ => ar5 fun _ _ _ _ _ => rfl⟩,
    ⟨O_BesideRule, g_BesideRule_parts, _, oa_BesideRule, ⟨ma_BesideRule_parts, mf_BesideRule_parts, mk_BesideRule_parts⟩, fun_mk ml_BesideRule_parts mc_BesideRule_parts mk_BesideRule_parts, (fun_mk (st := s_BesideRule_parts) ml_BesideRule_parts mc_BesideRule_parts mk_BesideRule_parts).binds fun _ _ _ _ _ _ => ar1 fun _ => rfl⟩,
    ⟨O_BesideRule, g_BesideRule_made, _, oa_BesideRule, ⟨ma_BesideRule_made, mf_BesideRule_made, mk_BesideRule_made⟩, fun_mk ml_BesideRule_made mc_BesideRule_made mk_BesideRule_made, (fun_mk (st := s_BesideRule_made) ml_BesideRule_made mc_BesideRule_made mk_BesideRule_made).binds fun _ _ _ _ _ _ => ar2 fun _ _ => rfl⟩,
    fun D e => ns_one oa_AboveRule e ▸ na_AboveRule_one,
    fun D e => ns_one oa_AboveRule e ▸ na_AboveRule_other,
    fun D e => ns_one oa_AboveRule e ▸ na_AboveRule_name,
    fun D e => ns_one oa_AboveRule e ▸ na_AboveRule_cost,
    ⟨O_AboveRule, g_AboveRule_init, _, oa_AboveRule, ⟨ma_AboveRule_init, mf_AboveRule_init, mk_AboveRule_init⟩, fun_mk ml_AboveRule_init mc_AboveRule_init mk_AboveRule_init, (fun_mk (st := s_AboveRule_init) ml_AboveRule_init mc_AboveRule_init mk_AboveRule_init).binds fun _ _ _ _ _ _ => ar5 fun _ _ _ _ _ => rfl⟩,
    ⟨O_AboveRule, g_AboveRule_parts, _, oa_AboveRule, ⟨ma_AboveRule_parts, mf_AboveRule_parts, mk_AboveRule_parts⟩, fun_mk ml_AboveRule_parts mc_AboveRule_parts mk_AboveRule_parts, (fun_mk (st := s_AboveRule_parts) ml_AboveRule_parts mc_AboveRule_parts mk_AboveRule_parts).binds fun _ _ _ _ _ _ => ar1 fun _ => rfl⟩,
    ⟨O_AboveRule, g_AboveRule_made, _, oa_AboveRule, ⟨ma_AboveRule_made, mf_AboveRule_made, mk_AboveRule_made⟩, fun_mk ml_AboveRule_made mc_AboveRule_made mk_AboveRule_made, (fun_mk (st := s_AboveRule_made) ml_AboveRule_made mc_AboveRule_made mk_AboveRule_made).binds fun _ _ _ _ _ _ => ar2 fun _ _ => rfl⟩,
    fun D e => ns_one oa_TurnRule e ▸ na_TurnRule_part,
    fun D e => ns_one oa_TurnRule e ▸ na_TurnRule_turning,
    fun D e => ns_one oa_TurnRule e ▸ na_TurnRule_name,
    fun D e => ns_one oa_TurnRule e ▸ na_TurnRule_cost,
    ⟨O_TurnRule, g_TurnRule_init, _, oa_TurnRule, ⟨ma_TurnRule_init, mf_TurnRule_init, mk_TurnRule_init⟩, fun_mk ml_TurnRule_init mc_TurnRule_init mk_TurnRule_init, (fun_mk (st := s_TurnRule_init) ml_TurnRule_init mc_TurnRule_init mk_TurnRule_init).binds fun _ _ _ _ _ _ => ar5 fun _ _ _ _ _ => rfl⟩,
    ⟨O_TurnRule, g_TurnRule_parts, _, oa_TurnRule, ⟨ma_TurnRule_parts, mf_TurnRule_parts, mk_TurnRule_parts⟩, fun_mk ml_TurnRule_parts mc_TurnRule_parts mk_TurnRule_parts, (fun_mk (st := s_TurnRule_parts) ml_TurnRule_parts mc_TurnRule_parts mk_TurnRule_parts).binds fun _ _ _ _ _ _ => ar1 fun _ => rfl⟩,
    ⟨O_TurnRule, g_TurnRule_made, _, oa_TurnRule, ⟨ma_TurnRule_made, mf_TurnRule_made, mk_TurnRule_made⟩, fun_mk ml_TurnRule_made mc_TurnRule_made mk_TurnRule_made, (fun_mk (st := s_TurnRule_made) ml_TurnRule_made mc_TurnRule_made mk_TurnRule_made).binds fun _ _ _ _ _ _ => ar2 fun _ _ => rfl⟩,
    fun D e => ns_one oa_Counter e ▸ na_Counter_grammar,
    fun D e => ns_one oa_Counter e ▸ na_Counter_kept,
    ⟨O_Counter, g_Counter_init, _, oa_Counter, ⟨ma_Counter_init, mf_Counter_init, mk_Counter_init⟩, fun_mk ml_Counter_init mc_Counter_init mk_Counter_init, (fun_mk (st := s_Counter_init) ml_Counter_init mc_Counter_init mk_Counter_init).binds fun _ _ _ _ _ _ => ar2 fun _ _ => rfl⟩,
    ⟨O_Counter, g_Counter_of_name, _, oa_Counter, ⟨ma_Counter_of_name, mf_Counter_of_name, mk_Counter_of_name⟩, fun_mk ml_Counter_of_name mc_Counter_of_name mk_Counter_of_name, (fun_mk (st := s_Counter_of_name) ml_Counter_of_name mc_Counter_of_name mk_Counter_of_name).binds fun _ _ _ _ _ _ => ar5 fun _ _ _ _ _ => rfl⟩,
    ⟨O_Counter, g_Counter_of_shares, _, oa_Counter, ⟨ma_Counter_of_shares, mf_Counter_of_shares, mk_Counter_of_shares⟩, fun_mk ml_Counter_of_shares mc_Counter_of_shares mk_Counter_of_shares, (fun_mk (st := s_Counter_of_shares) ml_Counter_of_shares mc_Counter_of_shares mk_Counter_of_shares).binds fun _ _ _ _ _ _ => ar4 fun _ _ _ _ => rfl⟩,
    ⟨O_Counter, g_Counter_of_rule, _, oa_Counter, ⟨ma_Counter_of_rule, mf_Counter_of_rule, mk_Counter_of_rule⟩, fun_mk ml_Counter_of_rule mc_Counter_of_rule mk_Counter_of_rule, (fun_mk (st := s_Counter_of_rule) ml_Counter_of_rule mc_Counter_of_rule mk_Counter_of_rule).binds fun _ _ _ _ _ _ => ar5 fun _ _ _ _ _ => rfl⟩,
    ⟨O_Counter, g_Counter_tree, _, oa_Counter, ⟨ma_Counter_tree, mf_Counter_tree, mk_Counter_tree⟩, fun_mk ml_Counter_tree mc_Counter_tree mk_Counter_tree, (fun_mk (st := s_Counter_tree) ml_Counter_tree mc_Counter_tree mk_Counter_tree).binds fun _ _ _ _ _ _ => ar6 fun _ _ _ _ _ _ => rfl⟩,
    ⟨O_Counter, g_Counter_tree_by, _, oa_Counter, ⟨ma_Counter_tree_by, mf_Counter_tree_by, mk_Counter_tree_by⟩, fun_mk ml_Counter_tree_by mc_Counter_tree_by mk_Counter_tree_by, (fun_mk (st := s_Counter_tree_by) ml_Counter_tree_by mc_Counter_tree_by mk_Counter_tree_by).binds fun _ _ _ _ _ _ => ar5 fun _ _ _ _ _ => rfl⟩,
    ⟨O_Counter, g_Counter_shape_of, _, oa_Counter, ⟨ma_Counter_shape_of, mf_Counter_shape_of, mk_Counter_shape_of⟩, fun_mk ml_Counter_shape_of mc_Counter_shape_of mk_Counter_shape_of, (fun_mk (st := s_Counter_shape_of) ml_Counter_shape_of mc_Counter_shape_of mk_Counter_shape_of).binds fun _ _ _ _ _ _ => ar2 fun _ _ => rfl⟩,
    ⟨O_Counter, g_Counter_number, _, oa_Counter, ⟨ma_Counter_number, mf_Counter_number, mk_Counter_number⟩, fun_mk ml_Counter_number mc_Counter_number mk_Counter_number, (fun_mk (st := s_Counter_number) ml_Counter_number mc_Counter_number mk_Counter_number).binds fun _ _ _ _ _ _ => ar2 fun _ _ => rfl⟩,
    ⟨O_Counter, g_Counter_number_by, _, oa_Counter, ⟨ma_Counter_number_by, mf_Counter_number_by, mk_Counter_number_by⟩, fun_mk ml_Counter_number_by mc_Counter_number_by mk_Counter_number_by, (fun_mk (st := s_Counter_number_by) ml_Counter_number_by mc_Counter_number_by mk_Counter_number_by).binds fun _ _ _ _ _ _ => ar4 fun _ _ _ _ => rfl⟩,
    fun D e => ns_one oa_Grammar e ▸ na_Grammar_signs,
    fun D e => ns_one oa_Grammar e ▸ na_Grammar_start,
    fun D e => ns_one oa_Grammar e ▸ na_Grammar_kept_rules,
    fun D e => ns_one oa_Grammar e ▸ na_Grammar_kept_names,
    ⟨O_Grammar, g_Grammar_init, _, oa_Grammar, ⟨ma_Grammar_init, mf_Grammar_init, mk_Grammar_init⟩, fun_mk ml_Grammar_init mc_Grammar_init mk_Grammar_init, (fun_mk (st := s_Grammar_init) ml_Grammar_init mc_Grammar_init mk_Grammar_init).binds fun _ _ _ _ _ _ => ar4 fun _ _ _ _ => rfl⟩,
    ⟨O_Grammar, g_Grammar_rule, _, oa_Grammar, ⟨ma_Grammar_rule, mf_Grammar_rule, mk_Grammar_rule⟩, fun_mk ml_Grammar_rule mc_Grammar_rule mk_Grammar_rule, (fun_mk (st := s_Grammar_rule) ml_Grammar_rule mc_Grammar_rule mk_Grammar_rule).binds fun _ _ _ _ _ _ => ar2 fun _ _ => rfl⟩,
    ⟨O_Grammar, g_Grammar_many, _, oa_Grammar, ⟨ma_Grammar_many, mf_Grammar_many, mk_Grammar_many⟩, fun_mk ml_Grammar_many mc_Grammar_many mk_Grammar_many, (fun_mk (st := s_Grammar_many) ml_Grammar_many mc_Grammar_many mk_Grammar_many).binds fun _ _ _ _ _ _ => ar1 fun _ => rfl⟩,
    ⟨O_Grammar, g_Grammar_numbers_of, _, oa_Grammar, ⟨ma_Grammar_numbers_of, mf_Grammar_numbers_of, mk_Grammar_numbers_of⟩, fun_mk ml_Grammar_numbers_of mc_Grammar_numbers_of mk_Grammar_numbers_of, (fun_mk (st := s_Grammar_numbers_of) ml_Grammar_numbers_of mc_Grammar_numbers_of mk_Grammar_numbers_of).binds fun _ _ _ _ _ _ => ar2 fun _ _ => rfl⟩,
    CInit.mk oa_Rule ma_Rule_init ia_Rule ib_Rule ic_Rule,
    OSub.mk oa_CellRule oa_CellRule oh_CellRule oc_CellRule ou_CellRule_CellRule (fun _ => rfl),
    OSub.mk oa_BesideRule oa_BesideRule oh_BesideRule oc_BesideRule ou_BesideRule_BesideRule (fun _ => rfl),
    OSub.mk oa_BesideRule oa_CellRule oh_CellRule oc_CellRule ou_BesideRule_CellRule (fun e => absurd e ov_BesideRule_CellRule),
    OSub.mk oa_BesideRule oa_TurnRule oh_TurnRule oc_TurnRule ou_BesideRule_TurnRule (fun e => absurd e ov_BesideRule_TurnRule),
    OSub.mk oa_AboveRule oa_BesideRule oh_BesideRule oc_BesideRule ou_AboveRule_BesideRule (fun e => absurd e ov_AboveRule_BesideRule),
    OSub.mk oa_AboveRule oa_CellRule oh_CellRule oc_CellRule ou_AboveRule_CellRule (fun e => absurd e ov_AboveRule_CellRule),
    OSub.mk oa_AboveRule oa_TurnRule oh_TurnRule oc_TurnRule ou_AboveRule_TurnRule (fun e => absurd e ov_AboveRule_TurnRule),
    OSub.mk oa_TurnRule oa_CellRule oh_CellRule oc_CellRule ou_TurnRule_CellRule (fun e => absurd e ov_TurnRule_CellRule),
    OSub.mk oa_TurnRule oa_TurnRule oh_TurnRule oc_TurnRule ou_TurnRule_TurnRule (fun _ => rfl),
    df_of X G a_size_of l_size_of c_size_of k_size_of fun _ _ _ _ _ _ => ar1 fun _ => rfl,
    df_of X G a_beside l_beside c_beside k_beside fun _ _ _ _ _ _ => ar2 fun _ _ => rfl,
    df_of X G a_above l_above c_above k_above fun _ _ _ _ _ _ => ar2 fun _ _ => rfl,
    df_of X G a_quarter l_quarter c_quarter k_quarter fun _ _ _ _ _ _ => ar1 fun _ => rfl,
    df_of X G a_mirrored l_mirrored c_mirrored k_mirrored fun _ _ _ _ _ _ => ar1 fun _ => rfl,
    df_of X G a_turned l_turned c_turned k_turned fun _ _ _ _ _ _ => ar2 fun _ _ => rfl,
    df_of X G a_is_name l_is_name c_is_name k_is_name fun _ _ _ _ _ _ => ar1 fun _ => rfl,
    df_of X G a_asked_name l_asked_name c_asked_name k_asked_name fun _ _ _ _ _ _ => ar1 fun _ => rfl,
    df_of X G a_name_fault l_name_fault c_name_fault k_name_fault fun _ _ _ _ _ _ => ar4 fun _ _ _ _ => rfl,
    df_of X G a_made_by l_made_by c_made_by k_made_by fun _ _ _ _ _ _ => ar3 fun _ _ _ => rfl,
    df_of X G a_looked_at l_looked_at c_looked_at k_looked_at fun _ _ _ _ _ _ => ar2 fun _ _ => rfl,
    df_of X G a_tree_fault l_tree_fault c_tree_fault k_tree_fault fun _ _ _ _ _ _ => ar2 fun _ _ => rfl,
    df_of X G a_laid l_laid c_laid k_laid fun _ _ _ _ _ _ => ar2 fun _ _ => rfl,
    df_of X G a_numbers_in l_numbers_in c_numbers_in k_numbers_in fun _ _ _ _ _ _ => ar1 fun _ => rfl,
    df_of X G a_cost_of l_cost_of c_cost_of k_cost_of fun _ _ _ _ _ _ => ar2 fun _ _ => rfl,
    df_of X G a_shares l_shares c_shares k_shares fun _ _ _ _ _ _ => ar4 fun _ _ _ _ => rfl,
    df_of X G a_before_turning l_before_turning c_before_turning k_before_turning fun _ _ _ _ _ _ => ar3 fun _ _ _ => rfl,
    df_of X G a_count_trees l_count_trees c_count_trees k_count_trees fun _ _ _ _ _ _ => ar5 fun _ _ _ _ _ => rfl,
    df_of X G a_tree_at l_tree_at c_tree_at k_tree_at fun _ _ _ _ _ _ => ar6 fun _ _ _ _ _ _ => rfl,
    df_of X G a_number_of l_number_of c_number_of k_number_of fun _ _ _ _ _ _ => ar2 fun _ _ => rfl,
    df_of X G a_trees_of l_trees_of c_trees_of k_trees_of fun _ _ _ _ _ _ => ar5 fun _ _ _ _ _ => rfl,
    df_of X G a_are_signs l_are_signs c_are_signs k_are_signs fun _ _ _ _ _ _ => ar1 fun _ => rfl,
    df_of X G a_names_met l_names_met c_names_met k_names_met fun _ _ _ _ _ _ => ar2 fun _ _ => rfl,
    df_of X G a_asked_rules l_asked_rules c_asked_rules k_asked_rules fun _ _ _ _ _ _ => ar2 fun _ _ => rfl,
    df_of X G a_law_cell l_law_cell c_law_cell k_law_cell fun _ _ _ _ _ _ => ar2 fun _ _ => rfl,
    df_of X G a_law_cells l_law_cells c_law_cells k_law_cells fun _ _ _ _ _ _ => ar3 fun _ _ _ => rfl,
    df_of X G a_law_signs l_law_signs c_law_signs k_law_signs fun _ _ _ _ _ _ => ar2 fun _ _ => rfl,
    df_of X G a_law_names l_law_names c_law_names k_law_names fun _ _ _ _ _ _ => ar1 fun _ => rfl,
    df_of X G a_law_rule l_law_rule c_law_rule k_law_rule fun _ _ _ _ _ _ => ar1 fun _ => rfl,
    df_of X G a_law_grammar l_law_grammar c_law_grammar k_law_grammar fun _ _ _ _ _ _ => ar3 fun _ _ _ => rfl,
    df_of X G a_law_turned l_law_turned c_law_turned k_law_turned fun _ _ _ _ _ _ => ar2 fun _ _ => rfl,
    df_of X G a_law_joined l_law_joined c_law_joined k_law_joined fun _ _ _ _ _ _ => ar4 fun _ _ _ _ => rfl,
    df_of X G a_law_noted l_law_noted c_law_noted k_law_noted fun _ _ _ _ _ _ => ar3 fun _ _ _ => rfl,
    df_of X G a_law_put l_law_put c_law_put k_law_put fun _ _ _ _ _ _ => ar6 fun _ _ _ _ _ _ => rfl,
    df_of X G a_law_step l_law_step c_law_step k_law_step fun _ _ _ _ _ _ => ar4 fun _ _ _ _ => rfl,
    df_of X G a_law_grown l_law_grown c_law_grown k_law_grown fun _ _ _ _ _ _ => ar2 fun _ _ => rfl,
    df_of X G a_law_error l_law_error c_law_error k_law_error fun _ _ _ _ _ _ => ar3 fun _ _ _ => rfl,
    df_of X G a_law_no_number l_law_no_number c_law_no_number k_law_no_number fun _ _ _ _ _ _ => ar1 fun _ => rfl,
    df_of X G a_law_no_name l_law_no_name c_law_no_name k_law_no_name fun _ _ _ _ _ _ => ar1 fun _ => rfl,
    df_of X G a_law_spoilt l_law_spoilt c_law_spoilt k_law_spoilt fun _ _ _ _ _ _ => ar3 fun _ _ _ => rfl,
    df_of X G a_law_spoilt_within l_law_spoilt_within c_law_spoilt_within k_law_spoilt_within fun _ _ _ _ _ _ => ar3 fun _ _ _ => rfl,
    df_of X G a_law_why l_law_why c_law_why k_law_why fun _ _ _ _ _ _ => ar2 fun _ _ => rfl⟩
theorem all_mk {l : PySem.W.OpenLaw} {w : World} {K : PySem.W.Frag} {h : Heap} {mg : Str → Option Value} {fa : Addr} (X : K.In h) (G : h.Ns mainGlobals mg) (hfa : mg "law" = some (.ref fa)) (T : Txt K mg)
    {f_law : Addr} {od_law an_law : Option Addr} {sl_law : Array (Option Value)} {oc_law kV_law dc_law pm_law cd_law ct_law : Value} (a_law : PySem.W.nsIn K mainGlobals "law" = some (some (.ref f_law))) (l_law : K.lookup f_law = some ⟨oc_law, od_law, .func (PySem.W.fnOf "law" "law" (defArgs s_law) (defBody s_law) (defScope s_law) .none kV_law dc_law pm_law an_law cd_law ct_law), sl_law⟩) (c_law : PySem.W.codeIn K cd_law "law" = true) (k_law : PySem.W.keepIn K (.ref f_law) = true) :
    ∃ fd : FuncData, (∀ (s : Shared) (v : Value), BindsTo s fd ⟨[v], []⟩ [("_law_script", v)]) ∧ ∀ base : Heap, K.In base → base.Ns mainGlobals mg → FnOk l.prog w K mg base (L2.CX l.prog w) 140 fa fd ["_law_script"] (spOf K lawS) := by
  have e := hfa.symm.trans (PySem.W.mg_of X G a_law)
  cases e
  exact ⟨PySem.W.fnOf "law" "law" (defArgs s_law) (defBody s_law) (defScope s_law) .none kV_law dc_law pm_law an_law cd_law ct_law, fun s v => .of_eq rfl, fun base _ _ => law_fn (fun_mk l_law c_law k_law) sc_law (body_law T)⟩
end Law
open PySem PySem.W PyProof.Rows
set_option maxRecDepth 100000 in
set_option maxHeartbeats 0 in
theorem PySem.Challenge.cw_quiltlaw_k35_numbers_refused_holds : PySem.Challenge.rw_quiltlaw_k35_numbers_refused.Holds := by
  w_on; o_law; k_head; (case hw => w_witness2)
  k_fill
  refine L2.walk_of (l := PySem.Challenge.rw_quiltlaw_k35_numbers_refused) (n := 63) (k := 140) (x := "_law_script") (CX := fun w => L2.CX PySem.Challenge.rw_quiltlaw_k35_numbers_refused.prog w) (sp := fun w => Tw.spOf _ Tw.lawS) rfl (by decide) rfl ⟨rfl, by decide, by decide⟩ (fun w h Y => PySem.W.kIn_of Y) ?F (fun _ H a ns hl _ hS => Tw.law_sp _ H a ns hl hS) (fun w H s e s' => Tw.hCX0 _ w H s e s')
  case F =>
    intro w mg fa h KX G hmg
    refine' Law.all_mk KX G hmg (Law.txt_mk KX G ?zb_ValueError ?zb_all ?zb_enumerate ?zb_int ?zb_isinstance ?zb_len ?zb_list ?zb_range ?zb_reversed ?zb_set ?zb_sum ?zb_tuple ?zb_zip ?zc_MOST ?zc_MIRROR ?zc_CAPITALS ?zc_SMALL ?zc_MOST_LETTERS ?zc_MOST_COST ?zc_MOST_SIGNS ?zc_MOST_RULES ?zc_MOST_NAMES ?xn ?xq ?xa_QuiltError ?xk_QuiltError ?xt_QuiltError ?xg_QuiltError ?xh_QuiltError ?xs_QuiltError ?xd_QuiltError ?xc_QuiltError ?xm_QuiltError ?xa_NoFit ?xk_NoFit ?xt_NoFit ?xg_NoFit ?xh_NoFit ?xs_NoFit ?xd_NoFit ?xc_NoFit ?xm_NoFit ?xa_NoRule ?xk_NoRule ?xt_NoRule ?xg_NoRule ?xh_NoRule ?xs_NoRule ?xd_NoRule ?xc_NoRule ?xm_NoRule ?xa_NoGrammar ?xk_NoGrammar ?xt_NoGrammar ?xg_NoGrammar ?xh_NoGrammar ?xs_NoGrammar ?xd_NoGrammar ?xc_NoGrammar ?xm_NoGrammar ?xa_NoTree ?xk_NoTree ?xt_NoTree ?xg_NoTree ?xh_NoTree ?xs_NoTree ?xd_NoTree ?xc_NoTree ?xm_NoTree ?xa_NoName ?xk_NoName ?xt_NoName ?xg_NoName ?xh_NoName ?xs_NoName ?xd_NoName ?xc_NoName ?xm_NoName ?xa_TooMany ?xk_TooMany ?xt_TooMany ?xg_TooMany ?xh_TooMany ?xs_TooMany ?xd_TooMany ?xc_TooMany ?xm_TooMany ?xa_NoNumber ?xk_NoNumber ?xt_NoNumber ?xg_NoNumber ?xh_NoNumber ?xs_NoNumber ?xd_NoNumber ?xc_NoNumber ?xm_NoNumber ?xp_NoFit ?xp_NoRule ?xl_NoTree ?xv_NoTree ?xw_NoTree ?xf_NoTree ?xi_NoTree ?xj_NoTree ?xo_NoTree ?xu_NoTree ?xz_NoTree ?xp_NoNumber ?xl_NoGrammar ?xv_NoGrammar ?xw_NoGrammar ?xf_NoGrammar ?xi_NoGrammar ?xj_NoGrammar ?xo_NoGrammar ?xu_NoGrammar ?xz_NoGrammar ?xp_NoName ?qs_QuiltError ?qr_QuiltError ?qf_QuiltError ?y_NoFit_NoFit ?y_NoTree_QuiltError ?y_NoTree_NoNumber ?d_NoTree_NoNumber ?y_NoTree_NoTree ?y_NoNumber_QuiltError ?y_NoNumber_NoName ?d_NoNumber_NoName ?y_NoNumber_NoNumber ?y_NoNumber_TooMany ?d_NoNumber_TooMany ?y_NoNumber_ValueError ?y_NoName_QuiltError ?y_NoName_NoName ?y_NoName_NoNumber ?d_NoName_NoNumber ?y_NoName_TooMany ?d_NoName_TooMany ?oa_Rule ?ob_Rule ?oc_Rule ?od_Rule ?oe_Rule ?of_Rule ?og_Rule ?oh_Rule ?oi_Rule ?oj_Rule ?oa_CellRule ?ob_CellRule ?oc_CellRule ?od_CellRule ?oe_CellRule ?of_CellRule ?og_CellRule ?oh_CellRule ?oi_CellRule ?oj_CellRule ?oa_BesideRule ?ob_BesideRule ?oc_BesideRule ?od_BesideRule ?oe_BesideRule ?of_BesideRule ?og_BesideRule ?oh_BesideRule ?oi_BesideRule ?oj_BesideRule ?oa_AboveRule ?ob_AboveRule ?oc_AboveRule ?od_AboveRule ?oe_AboveRule ?of_AboveRule ?og_AboveRule ?oh_AboveRule ?oi_AboveRule ?oj_AboveRule ?oa_TurnRule ?ob_TurnRule ?oc_TurnRule ?od_TurnRule ?oe_TurnRule ?of_TurnRule ?og_TurnRule ?oh_TurnRule ?oi_TurnRule ?oj_TurnRule ?oa_Counter ?ob_Counter ?oc_Counter ?od_Counter ?oe_Counter ?of_Counter ?og_Counter ?oh_Counter ?oi_Counter ?oj_Counter ?oa_Grammar ?ob_Grammar ?oc_Grammar ?od_Grammar ?oe_Grammar ?of_Grammar ?og_Grammar ?oh_Grammar ?oi_Grammar ?oj_Grammar ?ma_Rule_init ?ml_Rule_init ?mc_Rule_init ?mk_Rule_init ?mf_Rule_init ?na_CellRule_sign ?na_CellRule_name ?na_CellRule_cost ?ma_CellRule_init ?ml_CellRule_init ?mc_CellRule_init ?mk_CellRule_init ?mf_CellRule_init ?ma_CellRule_made ?ml_CellRule_made ?mc_CellRule_made ?mk_CellRule_made ?mf_CellRule_made ?ma_CellRule_parts ?ml_Rule_parts ?mc_Rule_parts ?mk_Rule_parts ?mf_Rule_parts ?na_BesideRule_one ?na_BesideRule_other ?na_BesideRule_name ?na_BesideRule_cost ?ma_BesideRule_init ?ml_BesideRule_init ?mc_BesideRule_init ?mk_BesideRule_init ?mf_BesideRule_init ?ma_BesideRule_parts ?ml_BesideRule_parts ?mc_BesideRule_parts ?mk_BesideRule_parts ?mf_BesideRule_parts ?ma_BesideRule_made ?ml_BesideRule_made ?mc_BesideRule_made ?mk_BesideRule_made ?mf_BesideRule_made ?na_AboveRule_one ?na_AboveRule_other ?na_AboveRule_name ?na_AboveRule_cost ?ma_AboveRule_init ?ml_AboveRule_init ?mc_AboveRule_init ?mk_AboveRule_init ?mf_AboveRule_init ?ma_AboveRule_parts ?ml_AboveRule_parts ?mc_AboveRule_parts ?mk_AboveRule_parts ?mf_AboveRule_parts ?ma_AboveRule_made ?ml_AboveRule_made ?mc_AboveRule_made ?mk_AboveRule_made ?mf_AboveRule_made ?na_TurnRule_part ?na_TurnRule_turning ?na_TurnRule_name ?na_TurnRule_cost ?ma_TurnRule_init ?ml_TurnRule_init ?mc_TurnRule_init ?mk_TurnRule_init ?mf_TurnRule_init ?ma_TurnRule_parts ?ml_TurnRule_parts ?mc_TurnRule_parts ?mk_TurnRule_parts ?mf_TurnRule_parts ?ma_TurnRule_made ?ml_TurnRule_made ?mc_TurnRule_made ?mk_TurnRule_made ?mf_TurnRule_made ?na_Counter_grammar ?na_Counter_kept ?ma_Counter_init ?ml_Counter_init ?mc_Counter_init ?mk_Counter_init ?mf_Counter_init ?ma_Counter_of_name ?ml_Counter_of_name ?mc_Counter_of_name ?mk_Counter_of_name ?mf_Counter_of_name ?ma_Counter_of_shares ?ml_Counter_of_shares ?mc_Counter_of_shares ?mk_Counter_of_shares ?mf_Counter_of_shares ?ma_Counter_of_rule ?ml_Counter_of_rule ?mc_Counter_of_rule ?mk_Counter_of_rule ?mf_Counter_of_rule ?ma_Counter_tree ?ml_Counter_tree ?mc_Counter_tree ?mk_Counter_tree ?mf_Counter_tree ?ma_Counter_tree_by ?ml_Counter_tree_by ?mc_Counter_tree_by ?mk_Counter_tree_by ?mf_Counter_tree_by ?ma_Counter_shape_of ?ml_Counter_shape_of ?mc_Counter_shape_of ?mk_Counter_shape_of ?mf_Counter_shape_of ?ma_Counter_number ?ml_Counter_number ?mc_Counter_number ?mk_Counter_number ?mf_Counter_number ?ma_Counter_number_by ?ml_Counter_number_by ?mc_Counter_number_by ?mk_Counter_number_by ?mf_Counter_number_by ?na_Grammar_signs ?na_Grammar_start ?na_Grammar_kept_rules ?na_Grammar_kept_names ?ma_Grammar_init ?ml_Grammar_init ?mc_Grammar_init ?mk_Grammar_init ?mf_Grammar_init ?ma_Grammar_rule ?ml_Grammar_rule ?mc_Grammar_rule ?mk_Grammar_rule ?mf_Grammar_rule ?ma_Grammar_many ?ml_Grammar_many ?mc_Grammar_many ?mk_Grammar_many ?mf_Grammar_many ?ma_Grammar_numbers_of ?ml_Grammar_numbers_of ?mc_Grammar_numbers_of ?mk_Grammar_numbers_of ?mf_Grammar_numbers_of ?ia_Rule ?ib_Rule ?ic_Rule ?ou_CellRule_CellRule ?ou_BesideRule_BesideRule ?ou_BesideRule_CellRule ?ov_BesideRule_CellRule ?ou_BesideRule_TurnRule ?ov_BesideRule_TurnRule ?ou_AboveRule_BesideRule ?ov_AboveRule_BesideRule ?ou_AboveRule_CellRule ?ov_AboveRule_CellRule ?ou_AboveRule_TurnRule ?ov_AboveRule_TurnRule ?ou_TurnRule_CellRule ?ov_TurnRule_CellRule ?ou_TurnRule_TurnRule ?a_size_of ?l_size_of ?c_size_of ?k_size_of ?a_beside ?l_beside ?c_beside ?k_beside ?a_above ?l_above ?c_above ?k_above ?a_quarter ?l_quarter ?c_quarter ?k_quarter ?a_mirrored ?l_mirrored ?c_mirrored ?k_mirrored ?a_turned ?l_turned ?c_turned ?k_turned ?a_is_name ?l_is_name ?c_is_name ?k_is_name ?a_asked_name ?l_asked_name ?c_asked_name ?k_asked_name ?a_name_fault ?l_name_fault ?c_name_fault ?k_name_fault ?a_made_by ?l_made_by ?c_made_by ?k_made_by ?a_looked_at ?l_looked_at ?c_looked_at ?k_looked_at ?a_tree_fault ?l_tree_fault ?c_tree_fault ?k_tree_fault ?a_laid ?l_laid ?c_laid ?k_laid ?a_numbers_in ?l_numbers_in ?c_numbers_in ?k_numbers_in ?a_cost_of ?l_cost_of ?c_cost_of ?k_cost_of ?a_shares ?l_shares ?c_shares ?k_shares ?a_before_turning ?l_before_turning ?c_before_turning ?k_before_turning ?a_count_trees ?l_count_trees ?c_count_trees ?k_count_trees ?a_tree_at ?l_tree_at ?c_tree_at ?k_tree_at ?a_number_of ?l_number_of ?c_number_of ?k_number_of ?a_trees_of ?l_trees_of ?c_trees_of ?k_trees_of ?a_are_signs ?l_are_signs ?c_are_signs ?k_are_signs ?a_names_met ?l_names_met ?c_names_met ?k_names_met ?a_asked_rules ?l_asked_rules ?c_asked_rules ?k_asked_rules ?a_law_cell ?l_law_cell ?c_law_cell ?k_law_cell ?a_law_cells ?l_law_cells ?c_law_cells ?k_law_cells ?a_law_signs ?l_law_signs ?c_law_signs ?k_law_signs ?a_law_names ?l_law_names ?c_law_names ?k_law_names ?a_law_rule ?l_law_rule ?c_law_rule ?k_law_rule ?a_law_grammar ?l_law_grammar ?c_law_grammar ?k_law_grammar ?a_law_turned ?l_law_turned ?c_law_turned ?k_law_turned ?a_law_joined ?l_law_joined ?c_law_joined ?k_law_joined ?a_law_noted ?l_law_noted ?c_law_noted ?k_law_noted ?a_law_put ?l_law_put ?c_law_put ?k_law_put ?a_law_step ?l_law_step ?c_law_step ?k_law_step ?a_law_grown ?l_law_grown ?c_law_grown ?k_law_grown ?a_law_error ?l_law_error ?c_law_error ?k_law_error ?a_law_no_number ?l_law_no_number ?c_law_no_number ?k_law_no_number ?a_law_no_name ?l_law_no_name ?c_law_no_name ?k_law_no_name ?a_law_spoilt ?l_law_spoilt ?c_law_spoilt ?k_law_spoilt ?a_law_spoilt_within ?l_law_spoilt_within ?c_law_spoilt_within ?k_law_spoilt_within ?a_law_why ?l_law_why ?c_law_why ?k_law_why) ?a_law ?l_law ?c_law ?k_law
    (case zb_ValueError => k_is)
    (case zb_all => k_is)
    (case zb_enumerate => k_is)
    (case zb_int => k_is)
    (case zb_isinstance => k_is)
    (case zb_len => k_is)
    (case zb_list => k_is)
    (case zb_range => k_is)
    (case zb_reversed => k_is)
    (case zb_set => k_is)
    (case zb_sum => k_is)
    (case zb_tuple => k_is)
    (case zb_zip => k_is)
    (case zc_MOST => k_is)
    (case zc_MIRROR => k_is)
    (case zc_CAPITALS => k_is)
    (case zc_SMALL => k_is)
    (case zc_MOST_LETTERS => k_is)
    (case zc_MOST_COST => k_is)
    (case zc_MOST_SIGNS => k_is)
    (case zc_MOST_RULES => k_is)
    (case zc_MOST_NAMES => k_is)
    (case xn => k_is)
    (case xq => k_is)
    (case xa_QuiltError => k_is)
    (case xk_QuiltError => k_is)
    (case xt_QuiltError => k_is)
    (case xg_QuiltError => k_is)
    (case xh_QuiltError => k_is)
    (case xs_QuiltError => k_is)
    (case xd_QuiltError => k_is)
    (case xc_QuiltError => k_is)
    (case xm_QuiltError => k_is)
    (case xa_NoFit => k_is)
    (case xk_NoFit => k_is)
    (case xt_NoFit => k_is)
    (case xg_NoFit => k_is)
    (case xh_NoFit => k_is)
    (case xs_NoFit => k_is)
    (case xd_NoFit => k_is)
    (case xc_NoFit => k_is)
    (case xm_NoFit => k_is)
    (case xa_NoRule => k_is)
    (case xk_NoRule => k_is)
    (case xt_NoRule => k_is)
    (case xg_NoRule => k_is)
    (case xh_NoRule => k_is)
    (case xs_NoRule => k_is)
    (case xd_NoRule => k_is)
    (case xc_NoRule => k_is)
    (case xm_NoRule => k_is)
    (case xa_NoGrammar => k_is)
    (case xk_NoGrammar => k_is)
    (case xt_NoGrammar => k_is)
    (case xg_NoGrammar => k_is)
    (case xh_NoGrammar => k_is)
    (case xs_NoGrammar => k_is)
    (case xd_NoGrammar => k_is)
    (case xc_NoGrammar => k_is)
    (case xm_NoGrammar => k_is)
    (case xa_NoTree => k_is)
    (case xk_NoTree => k_is)
    (case xt_NoTree => k_is)
    (case xg_NoTree => k_is)
    (case xh_NoTree => k_is)
    (case xs_NoTree => k_is)
    (case xd_NoTree => k_is)
    (case xc_NoTree => k_is)
    (case xm_NoTree => k_is)
    (case xa_NoName => k_is)
    (case xk_NoName => k_is)
    (case xt_NoName => k_is)
    (case xg_NoName => k_is)
    (case xh_NoName => k_is)
    (case xs_NoName => k_is)
    (case xd_NoName => k_is)
    (case xc_NoName => k_is)
    (case xm_NoName => k_is)
    (case xa_TooMany => k_is)
    (case xk_TooMany => k_is)
    (case xt_TooMany => k_is)
    (case xg_TooMany => k_is)
    (case xh_TooMany => k_is)
    (case xs_TooMany => k_is)
    (case xd_TooMany => k_is)
    (case xc_TooMany => k_is)
    (case xm_TooMany => k_is)
    (case xa_NoNumber => k_is)
    (case xk_NoNumber => k_is)
    (case xt_NoNumber => k_is)
    (case xg_NoNumber => k_is)
    (case xh_NoNumber => k_is)
    (case xs_NoNumber => k_is)
    (case xd_NoNumber => k_is)
    (case xc_NoNumber => k_is)
    (case xm_NoNumber => k_is)
    (case xp_NoFit => k_exc)
    (case xp_NoRule => k_exc)
    (case xl_NoTree => k_is)
    (case xv_NoTree => decide +kernel)
    (case xw_NoTree => k_is)
    (case xf_NoTree => k_is)
    (case xi_NoTree => k_is)
    (case xj_NoTree => k_is)
    (case xo_NoTree => k_is)
    (case xu_NoTree => k_is)
    (case xz_NoTree => k_is)
    (case xp_NoNumber => k_exc)
    (case xl_NoGrammar => k_is)
    (case xv_NoGrammar => decide +kernel)
    (case xw_NoGrammar => k_is)
    (case xf_NoGrammar => k_is)
    (case xi_NoGrammar => k_is)
    (case xj_NoGrammar => k_is)
    (case xo_NoGrammar => k_is)
    (case xu_NoGrammar => k_is)
    (case xz_NoGrammar => k_is)
    (case xp_NoName => k_exc)
    (case qs_QuiltError => k_is)
    (case qr_QuiltError => k_is)
    (case qf_QuiltError => k_is)
    (case y_NoFit_NoFit => k_is)
    (case y_NoTree_QuiltError => k_is)
    (case y_NoTree_NoNumber => k_is)
    (case d_NoTree_NoNumber => decide)
    (case y_NoTree_NoTree => k_is)
    (case y_NoNumber_QuiltError => k_is)
    (case y_NoNumber_NoName => k_is)
    (case d_NoNumber_NoName => decide)
    (case y_NoNumber_NoNumber => k_is)
    (case y_NoNumber_TooMany => k_is)
    (case d_NoNumber_TooMany => decide)
    (case y_NoNumber_ValueError => k_is)
    (case y_NoName_QuiltError => k_is)
    (case y_NoName_NoName => k_is)
    (case y_NoName_NoNumber => k_is)
    (case d_NoName_NoNumber => decide)
    (case y_NoName_TooMany => k_is)
    (case d_NoName_TooMany => decide)
    (case oa_Rule => k_is)
    (case ob_Rule => k_is)
    (case oc_Rule => k_is)
    (case od_Rule => k_is)
    (case oe_Rule => k_is)
    (case of_Rule => k_is)
    (case og_Rule => k_is)
    (case oh_Rule => k_is)
    (case oi_Rule => k_is)
    (case oj_Rule => k_is)
    (case oa_CellRule => k_is)
    (case ob_CellRule => k_is)
    (case oc_CellRule => k_is)
    (case od_CellRule => k_is)
    (case oe_CellRule => k_is)
    (case of_CellRule => k_is)
    (case og_CellRule => k_is)
    (case oh_CellRule => k_is)
    (case oi_CellRule => k_is)
    (case oj_CellRule => k_is)
    (case oa_BesideRule => k_is)
    (case ob_BesideRule => k_is)
    (case oc_BesideRule => k_is)
    (case od_BesideRule => k_is)
    (case oe_BesideRule => k_is)
    (case of_BesideRule => k_is)
    (case og_BesideRule => k_is)
    (case oh_BesideRule => k_is)
    (case oi_BesideRule => k_is)
    (case oj_BesideRule => k_is)
    (case oa_AboveRule => k_is)
    (case ob_AboveRule => k_is)
    (case oc_AboveRule => k_is)
    (case od_AboveRule => k_is)
    (case oe_AboveRule => k_is)
    (case of_AboveRule => k_is)
    (case og_AboveRule => k_is)
    (case oh_AboveRule => k_is)
    (case oi_AboveRule => k_is)
    (case oj_AboveRule => k_is)
    (case oa_TurnRule => k_is)
    (case ob_TurnRule => k_is)
    (case oc_TurnRule => k_is)
    (case od_TurnRule => k_is)
    (case oe_TurnRule => k_is)
    (case of_TurnRule => k_is)
    (case og_TurnRule => k_is)
    (case oh_TurnRule => k_is)
    (case oi_TurnRule => k_is)
    (case oj_TurnRule => k_is)
    (case oa_Counter => k_is)
    (case ob_Counter => k_is)
    (case oc_Counter => k_is)
    (case od_Counter => k_is)
    (case oe_Counter => k_is)
    (case of_Counter => k_is)
    (case og_Counter => k_is)
    (case oh_Counter => k_is)
    (case oi_Counter => k_is)
    (case oj_Counter => k_is)
    (case oa_Grammar => k_is)
    (case ob_Grammar => k_is)
    (case oc_Grammar => k_is)
    (case od_Grammar => k_is)
    (case oe_Grammar => k_is)
    (case of_Grammar => k_is)
    (case og_Grammar => k_is)
    (case oh_Grammar => k_is)
    (case oi_Grammar => k_is)
    (case oj_Grammar => k_is)
    (case ma_Rule_init => k_is)
    (case ml_Rule_init => k_is)
    (case mc_Rule_init => k_is)
    (case mk_Rule_init => k_is)
    (case mf_Rule_init => k_is)
    (case na_CellRule_sign => k_is)
    (case na_CellRule_name => k_is)
    (case na_CellRule_cost => k_is)
    (case ma_CellRule_init => k_is)
    (case ml_CellRule_init => k_is)
    (case mc_CellRule_init => k_is)
    (case mk_CellRule_init => k_is)
    (case mf_CellRule_init => k_is)
    (case ma_CellRule_made => k_is)
    (case ml_CellRule_made => k_is)
    (case mc_CellRule_made => k_is)
    (case mk_CellRule_made => k_is)
    (case mf_CellRule_made => k_is)
    (case ma_CellRule_parts => k_is)
    (case ml_Rule_parts => k_is)
    (case mc_Rule_parts => k_is)
    (case mk_Rule_parts => k_is)
    (case mf_Rule_parts => k_is)
    (case na_BesideRule_one => k_is)
    (case na_BesideRule_other => k_is)
    (case na_BesideRule_name => k_is)
    (case na_BesideRule_cost => k_is)
    (case ma_BesideRule_init => k_is)
    (case ml_BesideRule_init => k_is)
    (case mc_BesideRule_init => k_is)
    (case mk_BesideRule_init => k_is)
    (case mf_BesideRule_init => k_is)
    (case ma_BesideRule_parts => k_is)
    (case ml_BesideRule_parts => k_is)
    (case mc_BesideRule_parts => k_is)
    (case mk_BesideRule_parts => k_is)
    (case mf_BesideRule_parts => k_is)
    (case ma_BesideRule_made => k_is)
    (case ml_BesideRule_made => k_is)
    (case mc_BesideRule_made => k_is)
    (case mk_BesideRule_made => k_is)
    (case mf_BesideRule_made => k_is)
    (case na_AboveRule_one => k_is)
    (case na_AboveRule_other => k_is)
    (case na_AboveRule_name => k_is)
    (case na_AboveRule_cost => k_is)
    (case ma_AboveRule_init => k_is)
    (case ml_AboveRule_init => k_is)
    (case mc_AboveRule_init => k_is)
    (case mk_AboveRule_init => k_is)
    (case mf_AboveRule_init => k_is)
    (case ma_AboveRule_parts => k_is)
    (case ml_AboveRule_parts => k_is)
    (case mc_AboveRule_parts => k_is)
    (case mk_AboveRule_parts => k_is)
    (case mf_AboveRule_parts => k_is)
    (case ma_AboveRule_made => k_is)
    (case ml_AboveRule_made => k_is)
    (case mc_AboveRule_made => k_is)
    (case mk_AboveRule_made => k_is)
    (case mf_AboveRule_made => k_is)
    (case na_TurnRule_part => k_is)
    (case na_TurnRule_turning => k_is)
    (case na_TurnRule_name => k_is)
    (case na_TurnRule_cost => k_is)
    (case ma_TurnRule_init => k_is)
    (case ml_TurnRule_init => k_is)
    (case mc_TurnRule_init => k_is)
    (case mk_TurnRule_init => k_is)
    (case mf_TurnRule_init => k_is)
    (case ma_TurnRule_parts => k_is)
    (case ml_TurnRule_parts => k_is)
    (case mc_TurnRule_parts => k_is)
    (case mk_TurnRule_parts => k_is)
    (case mf_TurnRule_parts => k_is)
    (case ma_TurnRule_made => k_is)
    (case ml_TurnRule_made => k_is)
    (case mc_TurnRule_made => k_is)
    (case mk_TurnRule_made => k_is)
    (case mf_TurnRule_made => k_is)
    (case na_Counter_grammar => k_is)
    (case na_Counter_kept => k_is)
    (case ma_Counter_init => k_is)
    (case ml_Counter_init => k_is)
    (case mc_Counter_init => k_is)
    (case mk_Counter_init => k_is)
    (case mf_Counter_init => k_is)
    (case ma_Counter_of_name => k_is)
    (case ml_Counter_of_name => k_is)
    (case mc_Counter_of_name => k_is)
    (case mk_Counter_of_name => k_is)
    (case mf_Counter_of_name => k_is)
    (case ma_Counter_of_shares => k_is)
    (case ml_Counter_of_shares => k_is)
    (case mc_Counter_of_shares => k_is)
    (case mk_Counter_of_shares => k_is)
    (case mf_Counter_of_shares => k_is)
    (case ma_Counter_of_rule => k_is)
    (case ml_Counter_of_rule => k_is)
    (case mc_Counter_of_rule => k_is)
    (case mk_Counter_of_rule => k_is)
    (case mf_Counter_of_rule => k_is)
    (case ma_Counter_tree => k_is)
    (case ml_Counter_tree => k_is)
    (case mc_Counter_tree => k_is)
    (case mk_Counter_tree => k_is)
    (case mf_Counter_tree => k_is)
    (case ma_Counter_tree_by => k_is)
    (case ml_Counter_tree_by => k_is)
    (case mc_Counter_tree_by => k_is)
    (case mk_Counter_tree_by => k_is)
    (case mf_Counter_tree_by => k_is)
    (case ma_Counter_shape_of => k_is)
    (case ml_Counter_shape_of => k_is)
    (case mc_Counter_shape_of => k_is)
    (case mk_Counter_shape_of => k_is)
    (case mf_Counter_shape_of => k_is)
    (case ma_Counter_number => k_is)
    (case ml_Counter_number => k_is)
    (case mc_Counter_number => k_is)
    (case mk_Counter_number => k_is)
    (case mf_Counter_number => k_is)
    (case ma_Counter_number_by => k_is)
    (case ml_Counter_number_by => k_is)
    (case mc_Counter_number_by => k_is)
    (case mk_Counter_number_by => k_is)
    (case mf_Counter_number_by => k_is)
    (case na_Grammar_signs => k_is)
    (case na_Grammar_start => k_is)
    (case na_Grammar_kept_rules => k_is)
    (case na_Grammar_kept_names => k_is)
    (case ma_Grammar_init => k_is)
    (case ml_Grammar_init => k_is)
    (case mc_Grammar_init => k_is)
    (case mk_Grammar_init => k_is)
    (case mf_Grammar_init => k_is)
    (case ma_Grammar_rule => k_is)
    (case ml_Grammar_rule => k_is)
    (case mc_Grammar_rule => k_is)
    (case mk_Grammar_rule => k_is)
    (case mf_Grammar_rule => k_is)
    (case ma_Grammar_many => k_is)
    (case ml_Grammar_many => k_is)
    (case mc_Grammar_many => k_is)
    (case mk_Grammar_many => k_is)
    (case mf_Grammar_many => k_is)
    (case ma_Grammar_numbers_of => k_is)
    (case ml_Grammar_numbers_of => k_is)
    (case mc_Grammar_numbers_of => k_is)
    (case mk_Grammar_numbers_of => k_is)
    (case mf_Grammar_numbers_of => k_is)
    (case ia_Rule => k_is)
    (case ib_Rule => k_is)
    (case ic_Rule => k_is)
    (case ou_CellRule_CellRule => k_is)
    (case ou_BesideRule_BesideRule => k_is)
    (case ou_BesideRule_CellRule => k_is)
    (case ov_BesideRule_CellRule => decide)
    (case ou_BesideRule_TurnRule => k_is)
    (case ov_BesideRule_TurnRule => decide)
    (case ou_AboveRule_BesideRule => k_is)
    (case ov_AboveRule_BesideRule => decide)
    (case ou_AboveRule_CellRule => k_is)
    (case ov_AboveRule_CellRule => decide)
    (case ou_AboveRule_TurnRule => k_is)
    (case ov_AboveRule_TurnRule => decide)
    (case ou_TurnRule_CellRule => k_is)
    (case ov_TurnRule_CellRule => decide)
    (case ou_TurnRule_TurnRule => k_is)
    (case a_size_of => k_is)
    (case l_size_of => k_is)
    (case c_size_of => k_is)
    (case k_size_of => k_is)
    (case a_beside => k_is)
    (case l_beside => k_is)
    (case c_beside => k_is)
    (case k_beside => k_is)
    (case a_above => k_is)
    (case l_above => k_is)
    (case c_above => k_is)
    (case k_above => k_is)
    (case a_quarter => k_is)
    (case l_quarter => k_is)
    (case c_quarter => k_is)
    (case k_quarter => k_is)
    (case a_mirrored => k_is)
    (case l_mirrored => k_is)
    (case c_mirrored => k_is)
    (case k_mirrored => k_is)
    (case a_turned => k_is)
    (case l_turned => k_is)
    (case c_turned => k_is)
    (case k_turned => k_is)
    (case a_is_name => k_is)
    (case l_is_name => k_is)
    (case c_is_name => k_is)
    (case k_is_name => k_is)
    (case a_asked_name => k_is)
    (case l_asked_name => k_is)
    (case c_asked_name => k_is)
    (case k_asked_name => k_is)
    (case a_name_fault => k_is)
    (case l_name_fault => k_is)
    (case c_name_fault => k_is)
    (case k_name_fault => k_is)
    (case a_made_by => k_is)
    (case l_made_by => k_is)
    (case c_made_by => k_is)
    (case k_made_by => k_is)
    (case a_looked_at => k_is)
    (case l_looked_at => k_is)
    (case c_looked_at => k_is)
    (case k_looked_at => k_is)
    (case a_tree_fault => k_is)
    (case l_tree_fault => k_is)
    (case c_tree_fault => k_is)
    (case k_tree_fault => k_is)
    (case a_laid => k_is)
    (case l_laid => k_is)
    (case c_laid => k_is)
    (case k_laid => k_is)
    (case a_numbers_in => k_is)
    (case l_numbers_in => k_is)
    (case c_numbers_in => k_is)
    (case k_numbers_in => k_is)
    (case a_cost_of => k_is)
    (case l_cost_of => k_is)
    (case c_cost_of => k_is)
    (case k_cost_of => k_is)
    (case a_shares => k_is)
    (case l_shares => k_is)
    (case c_shares => k_is)
    (case k_shares => k_is)
    (case a_before_turning => k_is)
    (case l_before_turning => k_is)
    (case c_before_turning => k_is)
    (case k_before_turning => k_is)
    (case a_count_trees => k_is)
    (case l_count_trees => k_is)
    (case c_count_trees => k_is)
    (case k_count_trees => k_is)
    (case a_tree_at => k_is)
    (case l_tree_at => k_is)
    (case c_tree_at => k_is)
    (case k_tree_at => k_is)
    (case a_number_of => k_is)
    (case l_number_of => k_is)
    (case c_number_of => k_is)
    (case k_number_of => k_is)
    (case a_trees_of => k_is)
    (case l_trees_of => k_is)
    (case c_trees_of => k_is)
    (case k_trees_of => k_is)
    (case a_are_signs => k_is)
    (case l_are_signs => k_is)
    (case c_are_signs => k_is)
    (case k_are_signs => k_is)
    (case a_names_met => k_is)
    (case l_names_met => k_is)
    (case c_names_met => k_is)
    (case k_names_met => k_is)
    (case a_asked_rules => k_is)
    (case l_asked_rules => k_is)
    (case c_asked_rules => k_is)
    (case k_asked_rules => k_is)
    (case a_law_cell => k_is)
    (case l_law_cell => k_is)
    (case c_law_cell => k_is)
    (case k_law_cell => k_is)
    (case a_law_cells => k_is)
    (case l_law_cells => k_is)
    (case c_law_cells => k_is)
    (case k_law_cells => k_is)
    (case a_law_signs => k_is)
    (case l_law_signs => k_is)
    (case c_law_signs => k_is)
    (case k_law_signs => k_is)
    (case a_law_names => k_is)
    (case l_law_names => k_is)
    (case c_law_names => k_is)
    (case k_law_names => k_is)
    (case a_law_rule => k_is)
    (case l_law_rule => k_is)
    (case c_law_rule => k_is)
    (case k_law_rule => k_is)
    (case a_law_grammar => k_is)
    (case l_law_grammar => k_is)
    (case c_law_grammar => k_is)
    (case k_law_grammar => k_is)
    (case a_law_turned => k_is)
    (case l_law_turned => k_is)
    (case c_law_turned => k_is)
    (case k_law_turned => k_is)
    (case a_law_joined => k_is)
    (case l_law_joined => k_is)
    (case c_law_joined => k_is)
    (case k_law_joined => k_is)
    (case a_law_noted => k_is)
    (case l_law_noted => k_is)
    (case c_law_noted => k_is)
    (case k_law_noted => k_is)
    (case a_law_put => k_is)
    (case l_law_put => k_is)
    (case c_law_put => k_is)
    (case k_law_put => k_is)
    (case a_law_step => k_is)
    (case l_law_step => k_is)
    (case c_law_step => k_is)
    (case k_law_step => k_is)
    (case a_law_grown => k_is)
    (case l_law_grown => k_is)
    (case c_law_grown => k_is)
    (case k_law_grown => k_is)
    (case a_law_error => k_is)
    (case l_law_error => k_is)
    (case c_law_error => k_is)
    (case k_law_error => k_is)
    (case a_law_no_number => k_is)
    (case l_law_no_number => k_is)
    (case c_law_no_number => k_is)
    (case k_law_no_number => k_is)
    (case a_law_no_name => k_is)
    (case l_law_no_name => k_is)
    (case c_law_no_name => k_is)
    (case k_law_no_name => k_is)
    (case a_law_spoilt => k_is)
    (case l_law_spoilt => k_is)
    (case c_law_spoilt => k_is)
    (case k_law_spoilt => k_is)
    (case a_law_spoilt_within => k_is)
    (case l_law_spoilt_within => k_is)
    (case c_law_spoilt_within => k_is)
    (case k_law_spoilt_within => k_is)
    (case a_law_why => k_is)
    (case l_law_why => k_is)
    (case c_law_why => k_is)
    (case k_law_why => k_is)
    (case a_law => k_is)
    (case l_law => k_is)
    (case c_law => k_is)
    (case k_law => k_is)
