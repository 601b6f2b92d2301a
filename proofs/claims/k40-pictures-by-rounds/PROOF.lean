import PyProof.Rows.All
import Wide.All
import OpenK.AllK
import Wide.FinOn
import HandS.ForMost
import HandS.ForExc
import HandS.Wide
import HandS.EndBits
import HandS.IsInst
import HandS.ExcInit
import HandS.ExcIs
import HandS.RevTup
import HandS.MapObj
import HandS.MapJoin
import HandS.Rev
import HandS.DictComp
import HandS.Strs
import HandS.TupSets
import HandS.Zip
import HandS.RevRange
import HandS.SortKw
import HandS.TryOnly
import HandS.Style
import PyProof.ListNew
import HandS.Deep
import PyProof.MinMaxWalk
import PyProof.WalkInts
import PyProof.Rows.CallKwBuiltin
import PyProof.Rows.CallKw2
import KE.KMinBuiltin
import PyProof.Draws
import PyProof.EnumMake
import KE.GoesMore
import KE.GoesEnum
import HandS.TupAny
import PyProof.AutoSeq1
import HandS.More
import KE.KEqDict
import HandS.SortInts
import HandS.Dict
import KE.KDictSum
import HandS.DictTup
import KE.KDictWalk
import KE.KDictCopyH
import HandS.Iter
import HandS.Exc
import HandS.Sort
import KE.SortKeyHeap
import PyProof.Rows.StrMul
import HandS.SetKeys
import HandS.Finally
import HandS.Defaults
import HandS.CallSlots
import PyProof.Rows.SortShellAny
import KE.SortData
import HandS.Conv
import HandS.Nested
import HandS.EndTab
import HandS.DictTup
import KE.KDictList
import HandS.Dict
import KE.KDictDisplayH
import PyProof.DictTable
import KE.LtData
import HandS.List
import KE.KIntText
import HandS.TryMany
import HandS.Comp
import HandS.Exc
import KE.GoesComp
import KE.GoesRaise
import KE.KAsSuite
import KE.KeyNested
import KE.KDictKeyed
import KE.OsRunLaw
import KE.KNestM
import PySem.Challenge.RW_quiltlaw_k40_pictures_by_rounds
set_option Elab.async false
set_option linter.all false
set_option genSizeOf false
set_option genInjectivity false
set_option maxRecDepth 100000
set_option maxHeartbeats 4000000
namespace RevS
open PySem PySem.Spec PyProof.Rows RT MpR
theorem norev_str : typeLookup (.type "str") "__reversed__" = pure none := by rw [typeLookup_type, builtinLookup_eq_fast]; kernel_rfl
theorem get_str : typeLookup (.type "str") "__getitem__" = pure (some (.builtin "str.__getitem__")) := by rw [typeLookup_type, builtinLookup_eq_fast]; kernel_rfl
theorem sub_str_dict : isSubtype (.type "str") (.type "dict") = pure false := by rw [isSubtype_type]; kernel_rfl
theorem nolen_rev : typeLookup (.type "reversed") "__len__" = pure none := by rw [typeLookup_type, builtinLookup_eq_fast]; kernel_rfl
theorem slot_hint : Slot "reversed" "__length_hint__" "reversed.__length_hint__" :=
  .of (owner := "reversed") (n := "__length_hint__") (by rw [typeLookup_type, builtinLookup_eq_fast]; kernel_rfl) (by decide +kernel) (by decide +kernel) (by decide +kernel)
    (by first | exact .inl (by decide +kernel) | exact .inr (by decide +kernel)) (by rw [isSubtype_type]; kernel_rfl)
theorem entry_hint : entryFor table "reversed.__length_hint__" = some Builtin.«reversed.__length_hint__» := entryFor_of_tree (by kernel_rfl)
theorem args_hint (a : Value) : argsOk "reversed.__length_hint__" ⟨[a], []⟩ := by
  unfold argsOk; rw [signature?_of (id := "reversed.__length_hint__") (n := ['_', '_', 't', 'n', 'i', 'h', '_', 'h', 't', 'g', 'n', 'e', 'l', '_', '_']) (o := ['d', 'e', 's', 'r', 'e', 'v', 'e', 'r']) (by kernel_rfl) owner_rt]; kernel_rfl
noncomputable def rsObj (x : Str) (t : Tok) (i : Int) : Obj := { cls := .type "reversed", data := .fields #[.str x t, rawInt i] }
noncomputable def IsRs (h : Heap) (a : Addr) (x : Str) (t : Tok) (i : Int) : Prop := ∃ o, h.get? a = some o ∧ o.cls = .type "reversed" ∧ o.data = .fields #[.str x t, rawInt i]
theorem IsRs.at {h h' : Heap} {a : Addr} {x : Str} {t : Tok} {i : Int} (q : IsRs h a x t i) (e : ∀ o, h.get? a = some o → h'.get? a = some o) : IsRs h' a x t i := let ⟨o, ho, r⟩ := q; ⟨o, e _ ho, r⟩
section
variable {prog : Program} {w : World} {A : Around} {E : Value → Shared → Prop} {s : Shared}
theorem IsRs.typeIs {a : Addr} {x : Str} {t : Tok} {i : Int} (q : IsRs s.heap a x t i) : s.TypeIs (.ref a) "reversed" := let ⟨o, ho, hc, _⟩ := q; ⟨o, ho, hc⟩
theorem code_reversed_str {x : Str} {t : Tok} {Q₁ : Value → Shared → Prop} (hz : x.length ≤ sizeLine)
    (h : Q₁ (.ref s.heap.objs.size) { s with heap := s.heap.push (rsObj x t ((x.length : Int) - 1)), toks := s.toks + 1 + 1 }) :
    codeAny (model prog w) A (.call (.builtin "reversed.__new__") ⟨[.type "reversed", .str x t], []⟩) (wants Q₁ E) s := by
  have hT : s.TypeIs (.str x t) "str" := typeIs_str _ _ _
  refine codeAny_of_tree ?_
  show wpAny _ A.in1 (do checkBuiltinCall "reversed.__new__" ⟨[.type "reversed", .str x t], []⟩; again (.builtin "reversed.__new__" ⟨[.type "reversed", .str x t], []⟩)) _ _ s
  refine wpAny_bind (wpAny_of_eq (F.newCall_reversed_1 _) (wpAny_pure ⟨plainId_quiet F.plain_reversed_new _, codeAny_builtin F.entry_reversed_new ?_⟩))
  rw [Around.under_plainId F.plain_reversed_new _]
  unfold Builtin.«reversed.__new__»
  refine wpAny_bind (wpAny_of_eq (newClass_reversed _) ?_)
  try dsimp only
  refine wpAny_bind (wpAny_of_eq (a := ()) (by first | rfl | kernel_rfl) ?_)
  try dsimp only
  refine wpAny_bind (wpAny_of_eq (a := ()) (by first | rfl | kernel_rfl) ?_)
  try dsimp only
  refine wpAny_bind (wpAny_specialOf hT norev_str ?_)
  try dsimp only
  refine wpAny_bind ?_
  wp_delta
  refine wpAny_bind (wpAny_isInstance (T := "str") (U := "dict") (b := false) hT sub_str_dict ?_)
  try dsimp only
  try rw [if_neg Bool.false_ne_true]
  try dsimp only
  refine wpAny_bind (wpAny_specialOf hT get_str ?_)
  try dsimp only
  try rw [if_pos (by decide +kernel)]
  refine wpAny_pure ?_
  try dsimp only
  try rw [if_neg (by decide)]
  try dsimp only
  refine wpAny_bind (P.len_str (by have := L2.line63; omega) ?_)
  refine wpAny_bind (wpAny_of_eq (a := some ((x.length : Nat) : Int)) rfl ?_)
  try dsimp only
  refine wpAny_bind ?_
  show wpAny _ _ (newObj (.type "reversed") (.fields #[.str x t, rawInt ((x.length : Int) - 1)])) _ _ _
  refine wpAny_newObj_type ?_
  exact wpAny_pure h
theorem call_reversed_str {x : Str} {t : Tok} {Q : Value → Shared → Prop} (hz : x.length ≤ sizeLine)
    (h : Q (.ref s.heap.objs.size) { s with heap := s.heap.push (rsObj x t ((x.length : Int) - 1)), toks := s.toks + 1 + 1 }) : wpAny (model prog w) A (call (.type "reversed") [.str x t]) Q E s := by
  refine callType_codes (Q₁ := fun obj s₁ => s₁.TypeIs obj "reversed" ∧ Q obj s₁) called_rt (F.typeCall_reversed_1 _) F.entry_object_init
    (code_reversed_str (A := A.in1) hz ⟨⟨_, Heap.get?_push_size _ rfl, rfl⟩, h⟩) fun obj s₁ h₁ => ?_
  exact ⟨h₁.1, F.args_object_init_2 obj _, object_init_meets called_rt.init.lookup called_rt.made (by decide) prog w A.in1 _ s₁ ⟨h₁.1, rfl, h₁.2⟩⟩
theorem next_rs_item {it : Addr} {x : Str} {t : Tok} {i c : Nat} {Q : Option Value → Shared → Prop} (hit : IsRs s.heap it x t (i : Int)) (hx : x.cps[i]? = some c) (hsz : x.length ≤ sizeLine)
    (hQ : ∀ h' tk, IsRs h' it x t ((i : Int) - 1) → Heap.SameBut it s.heap h' → Q (some (.str ⟨#[c]⟩ (s.toks + 1))) { s with heap := h', toks := tk }) : wpAny (model prog w) A (pyNext (.ref it)) Q E s := by
  obtain ⟨o, ho, hc, hd⟩ := id hit
  have hi : i < x.length := (Array.getElem?_eq_some_iff.mp hx).1
  have hT : s.TypeIs (.str x t) "str" := typeIs_str _ _ _
  have hn := L2.line63
  unfold pyNext
  refine wpAny_bind (wpAny_attempt (wpAny_callSpecial?_slot (name := Str.ofString "__next__") hit.typeIs slot_rt_next
    (wpAny_call_entry slot_rt_next hit.typeIs entry_rt_next ?_ (args_rt_next _))))
  unfold Builtin.«reversed.__next__»
  refine wpAny_bind (wpAny_of_eq (a := (Value.ref it, [])) rfl ?_)
  try dsimp only
  refine wpAny_bind (wpAny_field ho hd (x := .str x t) rfl ?_)
  try dsimp only
  refine wpAny_bind (wpAny_field ho hd (x := rawInt (i : Int)) rfl ?_)
  show wpAny _ _ (if (i : Int) < 0 then _ else _) _ _ s
  rw [if_neg (by omega)]
  try dsimp only
  refine wpAny_bind (wpAny_specialOf hT get_str ?_)
  try dsimp only
  try rw [if_neg (by decide)]
  try dsimp only
  refine wpAny_bind (wpAny_mkInt ?_)
  refine wpAny_bind (wpAny_attempt ?_)
  have fin : seqIndex? (i : Int) x.length = some i := seqIndex_of (by omega) (by omega)
  refine P.getItem_str (s := { s with toks := s.toks + 1 }) (c := c) (by
    have e1 : decide ((i : Int) < -(2 ^ 63 : Int)) = false := decide_eq_false (by omega)
    have e2 : decide ((i : Int) ≥ 2 ^ 63) = false := decide_eq_false (by omega)
    rw [e1, e2, Bool.or_false]) (by rw [fin]; simpa using hx) ?_
  try dsimp only
  refine wpAny_bind (wpAny_field (s := { s with toks := s.toks + 1 + 1 }) ho hd (x := rawInt (i : Int)) rfl ?_)
  try dsimp only
  refine wpAny_bind (wpAny_setField (s := { s with toks := s.toks + 1 + 1 }) ho hd (by simp) ?_)
  first
  | refine wpAny_pure ⟨_, rfl, wpAny_pure (hQ _ _ ?_ (Heap.SameBut.update ..))⟩
  | refine wpAny_bind (wpAny_pure (wpAny_pure ⟨_, rfl, wpAny_pure (hQ _ _ ?_ (Heap.SameBut.update ..))⟩))
  exact ⟨_, Heap.get?_update_self _ ho (Obj.isFreed_of_fields (Obj.data_mapFields hd _)), (Obj.cls_mapFields ..).trans hc, by
    rw [Obj.data_mapFields hd]; simp⟩
theorem next_rs_end {it : Addr} {x : Str} {t : Tok} {Q : Option Value → Shared → Prop} (hh : A.handled = none) (hit : IsRs s.heap it x t (-1))
    (hQ : ∀ h', Heap.ExtBut it s.heap h' → Q none { s with heap := h' }) : wpAny (model prog w) A (pyNext (.ref it)) Q E s := by
  obtain ⟨o, ho, hc, hd⟩ := id hit
  unfold pyNext
  refine wpAny_bind (wpAny_attempt (wpAny_callSpecial?_slot (name := Str.ofString "__next__") hit.typeIs slot_rt_next
    (wpAny_call_entry slot_rt_next hit.typeIs entry_rt_next ?_ (args_rt_next _))))
  unfold Builtin.«reversed.__next__»
  refine wpAny_bind (wpAny_of_eq (a := (Value.ref it, [])) rfl ?_)
  try dsimp only
  refine wpAny_bind (wpAny_field ho hd (x := .str x t) rfl ?_)
  try dsimp only
  refine wpAny_bind (wpAny_field ho hd (x := rawInt (-1)) rfl ?_)
  show wpAny _ _ (if (-1 : Int) < 0 then _ else _) _ _ s
  rw [if_pos (by decide)]
  try dsimp only
  refine wpAny_bind (wpAny_rule ?_)
  refine wpAny_bind ?_
  wp_delta
  refine wpAny_bind (wpAny_setField ho hd (by simp) ?_)
  have ho2 := Heap.get?_update_self (Obj.mapFields (·.setIfInBounds 1 (rawInt (-1)))) ho (Obj.isFreed_of_fields (Obj.data_mapFields hd _))
  refine wpAny_setField (s := { s with heap := s.heap.update it (Obj.mapFields (·.setIfInBounds 1 (rawInt (-1)))) }) ho2 (Obj.data_mapFields hd _) (by simp) ?_
  try dsimp only
  first
  | show wpAny _ _ (newExc (.type "StopIteration") [] >>= _) _ _ _
  | (refine wpAny_bind ?_; show wpAny _ _ (newExc (.type "StopIteration") [] >>= _) _ _ _)
  | (refine wpAny_bind ?_; wp_delta; show wpAny _ _ (newExc (.type "StopIteration") [] >>= _) _ _ _)
  refine wpAny_bind ?_
  simp only [newExc, newTuple]
  refine wpAny_bind (wpAny_newObj_type ?_ (by size_fits))
  refine wpAny_bind (m := firstArgMember _ _) (wpAny_of_eq (a := Value.none) (by first | rfl | (simp only [firstArgMember]; rfl)) ?_)
  refine wpAny_newObj_type ?_ (by size_fits)
  simp only [raiseNew]
  refine wpAny_bind (wpAny_handled ?_)
  first | rw [show A.in1.handled = none from hh] | rw [hh]
  refine wpAny_bind (wpAny_pure (wpAny_throw ?_))
  refine wpAny_bind (wpAny_isInstance (T := "StopIteration") (b := true) ⟨_, Heap.get?_push_size _ rfl, rfl⟩ isSubtype_stop ?_)
  refine wpAny_pure (hQ _ ?_)
  refine ((?_ : Heap.ExtBut it s.heap _).push _).push _
  exact fun b ob hb e => (Heap.get?_update_other _ _ (Ne.symm hb)).trans ((Heap.get?_update_other _ _ (Ne.symm hb)).trans e)
theorem iter_rs {it : Addr} {x : Str} {t : Tok} {i : Int} {Q : Value → Shared → Prop} (hit : IsRs s.heap it x t i) (h : Q (.ref it) s) : wpAny (model prog w) A (pyIter (.ref it)) Q E s := by
  refine wpAny_pyIter_slot hit.typeIs slot_rt_iter (wpAny_call_entry slot_rt_iter hit.typeIs entry_rt_iter ?_ (args_rt_iter _))
  show wpAny _ _ (ret (.ref it)) _ _ s
  exact wpAny_pure ⟨_, rfl, "reversed", _, hit.typeIs, slot_rt_next.lookup, h⟩
end
theorem walks_rs {prog : Program} {w : World} {A : Around} (hh : A.handled = none) (I : Addr) (x : Str) (t : Tok) (hsz : x.length ≤ sizeLine) :
    Walks prog w A I [I] [I] x.length (fun i v => ∃ c tk, x.cps[x.length - 1 - i]? = some c ∧ v = .str ⟨#[c]⟩ tk) (fun i h => i ≤ x.length ∧ IsRs h I x t ((x.length : Int) - 1 - (i : Int))) where
  sub := fun b hb => hb
  frame := fun _ _ _ q hk => ⟨q.1, q.2.at fun o e => hk I (by simp) o e⟩
  item := fun i s Q E hi q hQ => by
    have e : (x.length : Int) - 1 - (i : Int) = ((x.length - 1 - i : Nat) : Int) := by omega
    have hit := q.2
    rw [e] at hit
    have hlt : x.length - 1 - i < x.cps.size := by show x.length - 1 - i < x.length; omega
    have hx : x.cps[x.length - 1 - i]? = some (x.cps[x.length - 1 - i]'hlt) := Array.getElem?_eq_getElem hlt
    refine next_rs_item hit hx hsz fun h' tk hit' hs' => ?_
    have e2 : ((x.length - 1 - i : Nat) : Int) - 1 = (x.length : Int) - 1 - ((i + 1 : Nat) : Int) := by omega
    rw [e2] at hit'
    exact hQ _ h' tk ⟨_, _, hx, rfl⟩ ⟨hi, hit'⟩ fun b o hb eo => hs'.extBut b o (fun h => hb (by simp [h])) eo
  done := fun s Q E q hQ => by
    have e : (x.length : Int) - 1 - (x.length : Int) = -1 := by omega
    have hit := q.2
    rw [e] at hit
    exact next_rs_end hh hit fun h' he' => hQ h' s.toks fun b o hb eo => he' b o (fun h => hb (by simp [h])) eo
  self := fun _ _ _ _ q hQ => iter_rs q.2 hQ
section
variable {prog : Program} {w : World} {A : Around} {E : Value → Shared → Prop} {s : Shared}
theorem call_hint {it : Addr} {x : Str} {t : Tok} {Q : Value → Shared → Prop} (hit : IsRs s.heap it x t ((x.length : Int) - 1)) (hz : x.length ≤ sizeLine)
    (h : ∀ tk k, s.toks ≤ k → Q (.int x.length tk) { s with toks := k }) : wpAny (model prog w) A (call (.builtin "reversed.__length_hint__") [.ref it]) Q E s := by
  obtain ⟨o, ho, hc, hd⟩ := id hit
  refine wpAny_call_entry slot_hint hit.typeIs entry_hint ?_ (args_hint _)
  unfold Builtin.«reversed.__length_hint__»
  refine wpAny_bind (wpAny_of_eq (a := Value.ref it) rfl ?_)
  try dsimp only
  refine wpAny_bind (wpAny_field ho hd (x := .str x t) rfl ?_)
  try dsimp only
  rw [if_neg (by intro q; cases q)]
  try dsimp only
  refine wpAny_bind (P.len_str (by have := L2.line63; omega) ?_)
  refine wpAny_bind (wpAny_of_eq (a := some ((x.length : Nat) : Int)) rfl ?_)
  try dsimp only
  refine wpAny_bind (wpAny_field (s := { s with toks := s.toks + 1 + 1 }) ho hd (x := rawInt ((x.length : Int) - 1)) rfl ?_)
  try dsimp only
  have e : (x.length : Int) - 1 + 1 = x.length := by omega
  show wpAny _ _ (if (x.length : Int) < (x.length : Int) - 1 + 1 then _ else _) _ _ _
  rw [if_neg (by omega), e]
  refine wpAny_bind (wpAny_mkInt ?_)
  exact wpAny_pure ⟨_, rfl, h _ _ (by show s.toks ≤ s.toks + 1 + 1 + 1; omega)⟩
end
section
variable {prog : Program} {w : World} {A : Around} {E : Value → Shared → Prop} {s : Shared}
theorem collect_rs {I : Addr} {x : Str} {t : Tok} {Q : List Value → Shared → Prop} (hh : A.handled = none) (hz : x.length ≤ sizeLine) (hit : IsRs s.heap I x t ((x.length : Int) - 1))
    (hQ : ∀ s' acc, Moved [I] (fun a b => b = a) s s' → ItemsOf (fun i v => ∃ c tk, x.cps[x.length - 1 - i]? = some c ∧ v = .str ⟨#[c]⟩ tk) acc x.length → Q acc.toList s') : wpAny (model prog w) A (collect (.ref I)) Q E s := by
  have W := (walks_rs (prog := prog) (w := w) (A := A.in1) hh I x t hz).toS
  have hst : 0 ≤ x.length ∧ IsRs s.heap I x t ((x.length : Int) - 1 - ((0 : Nat) : Int)) := ⟨Nat.zero_le _, by rw [show ((x.length : Int) - 1 - ((0 : Nat) : Int)) = (x.length : Int) - 1 by omega]; exact hit⟩
  obtain ⟨oi, hoi, _⟩ := id hit
  have hSI : s.heap.objs.size ≠ I := Nat.ne_of_gt (Heap.lt_size hoi)
  have hSf : s.heap.objs.size ∉ [I] := by simp only [List.mem_singleton]; exact hSI
  unfold collect
  refine wpAny_bind (wpAny_runValue (codeAny_builtin F.entry_proto_collect ?_))
  rw [Around.under_plainId F.plain_proto_collect _]
  show wpAny _ A.in1 (newList [] >>= fun l => again (.builtin "list.__iadd__" ⟨[l, .ref I], []⟩)) _ _ s
  refine wpAny_bind (wpAny_newObj_type ?_)
  refine wpAny_pure ⟨plainId_quiet F.plain_list_iadd _, codeAny_builtin F.entry_list_iadd ?_⟩
  rw [Around.under_plainId F.plain_list_iadd _]
  have hit₁ : IsRs (s.heap.push { cls := .type "list", data := .seq ([] : List Value).toArray }) I x t ((x.length : Int) - 1) := hit.at fun o e => Heap.get?_push_of_some _ e
  have hT : ({ s with heap := s.heap.push { cls := .type "list", data := .seq ([] : List Value).toArray } } : Shared).TypeIs (.ref I) "reversed" := IsRs.typeIs (s := { s with heap := s.heap.push { cls := .type "list", data := .seq ([] : List Value).toArray } }) hit₁
  have hst₁ := W.frame 0 s (s.heap.push { cls := .type "list", data := .seq ([] : List Value).toArray }) s.toks hst (Nat.le_refl _) fun b _ o e => Heap.get?_push_of_some _ e
  show wpAny _ A.in1 (Builtin.List.listExtendWith (.ref s.heap.objs.size) (.ref I) (.ref s.heap.objs.size)) _ _ _
  unfold Builtin.List.listExtendWith
  refine wpAny_bind (wpAny_typeOf hT ?_)
  have h1 : Builtin.List.listSameRef (.ref s.heap.objs.size) (.ref I) = false := by simp [Builtin.List.listSameRef, hSI]
  have h2 : (Value.type "reversed" == Value.type "list") = false := by decide
  have h3 : (Value.type "reversed" == Value.type "tuple") = false := by decide
  simp only [h1, h2, h3, Bool.or_false, Bool.false_eq_true, if_false]
  refine wpAny_bind (W.self 0 _ _ _ hst₁ ?_)
  refine wpAny_bind (wpAny_holding ?_)
  unfold Builtin.List.listLengthHint
  refine wpAny_bind (wpAny_specialOf hT nolen_rev ?_)
  show wpAny _ A.in1 (specialOf (Value.ref I) (Str.ofString "__length_hint__") >>= _) _ _ _
  refine wpAny_bind (wpAny_specialOf hT slot_hint.lookup ?_)
  generalize hid : ("reversed.__length_hint__" : String) = id0
  wp_delta
  rw [show splitId id0 = some ("reversed", "__length_hint__") from by subst hid; decide +kernel]
  subst hid
  refine wpAny_bind (wpAny_isInstance (b := true) hT F.sub_reversed_self ?_)
  simp only [Bool.not_true, Bool.false_eq_true, if_false]
  rw [if_neg (by decide +kernel)]
  refine wpAny_bind (wpAny_rule ?_)
  refine wpAny_bind (wpAny_of_eq (slot_hint.bind _) ?_)
  try dsimp only
  refine wpAny_bind (wpAny_attempt (call_hint (s := { s with heap := s.heap.push { cls := .type "list", data := .seq ([] : List Value).toArray } }) hit₁ hz fun tk k hk => ?_))
  try dsimp only
  have hn63 := L2.line63
  have e0 : ((x.length : Nat) : Int) ≥ 0 := by omega
  have hfi : Builtin.List.listFitsIndex ((x.length : Nat) : Int) = true := by
    unfold Builtin.List.listFitsIndex
    rw [decide_eq_true (by omega), decide_eq_true (by omega)]; rfl
  have hlong : Builtin.List.listTooLong (((x.length : Nat) : Int)).toNat = false := L2.notLongL (by simpa using hz)
  have hm : asInt? (Value.int ((x.length : Nat) : Int) tk) = pure (some ((x.length : Nat) : Int)) := by simp only [asInt?]
  rw [hm]
  rw [pure_bind]
  try dsimp only
  rw [hfi, if_neg (by decide), if_neg (show ¬ ((x.length : Nat) : Int) < 0 by omega), hlong, if_neg (by decide)]
  refine wpAny_pure ?_
  have hS₁ : (s.heap.push { cls := .type "list", data := .seq ([] : List Value).toArray }).get? s.heap.objs.size = some { cls := .type "list", data := .seq ([] : List Value).toArray } := Heap.get?_push_size _ rfl
  have hS0 : ({ s with heap := s.heap.push { cls := .type "list", data := .seq ([] : List Value).toArray }, toks := k } : Shared).heap.get? s.heap.objs.size = some { cls := .type "list", data := .seq ([] : List Value).toArray } := hS₁
  by_cases hz0 : x.length = 0
  · rw [hz0]
    rw [if_neg (by decide +kernel)]
    refine wpAny_pure ⟨plainId_quiet F.plain_extend_loop _, codeAny_extend_loopS W hz _ hSf _ x.length 0 _ _ _ rfl (Nat.zero_le _) ⟨Nat.zero_le _, by rw [show ((x.length : Int) - 1 - ((0 : Nat) : Int)) = (x.length : Int) - 1 by omega]; exact hit₁⟩ hS0 (ItemsOf.nil _) fun s' acc' c' hm hS' hacc => ?_⟩
    show wpAny _ A (load s.heap.objs.size >>= _) _ _ s'
    refine wpAny_bind (wpAny_load hS' ?_)
    refine wpAny_pure (hQ s' acc' ?_ hacc)
    refine ⟨fun b o hb e => ?_, hm.gens, hm.drawn, hm.os, ?_⟩
    · refine hm.heap b o (fun hmem => ?_) (Heap.get?_push_of_some _ e)
      rcases List.mem_cons.mp hmem with e' | hmem
      · exact absurd (Heap.lt_size e) (by rw [e']; exact Nat.lt_irrefl _)
      · exact hb hmem
    · exact Nat.le_trans hk hm.toks
  · rw [if_pos (by
      have : (((x.length : Nat) : Int) != 0) = true := by
        rw [bne_iff_ne]; omega
      rw [this]; rfl)]
    refine wpAny_bind (wpAny_rule ?_)
    refine wpAny_bind ?_
    show wpAny _ A.in1 (updateSeq s.heap.objs.size (·.push .none) >>= fun _ => updateSeq s.heap.objs.size (·.pop)) _ _ _
    refine wpAny_bind (wpAny_updateSeq hS0 rfl ?_ (Nat.zero_le _) (Nat.succ_le_succ (Nat.zero_le _)))
    have hS₂ := Heap.get?_update_self (Obj.mapSeq (·.push Value.none)) hS₁ rfl
    refine wpAny_updateSeq hS₂ rfl ?_ (by show 1 ≤ sizeLine; decide) (Nat.zero_le _)
    have hS₃ := Heap.get?_update_self (Obj.mapSeq (·.pop)) hS₂ rfl
    have oth : ∀ b o, b ≠ s.heap.objs.size → (s.heap.push { cls := .type "list", data := .seq ([] : List Value).toArray }).get? b = some o →
        (((s.heap.push { cls := .type "list", data := .seq ([] : List Value).toArray }).update s.heap.objs.size (Obj.mapSeq (·.push Value.none))).update s.heap.objs.size (Obj.mapSeq (·.pop))).get? b = some o :=
      fun b o hb e => (Heap.get?_update_other _ _ (Ne.symm hb)).trans ((Heap.get?_update_other _ _ (Ne.symm hb)).trans e)
    have hit3 := hit₁.at fun o e => oth I o (Ne.symm hSI) e
    refine wpAny_pure ⟨plainId_quiet F.plain_extend_loop _, codeAny_extend_loopS W hz _ hSf _ x.length 0 _ _ _ rfl (Nat.zero_le _) ⟨Nat.zero_le _, by rw [show ((x.length : Int) - 1 - ((0 : Nat) : Int)) = (x.length : Int) - 1 by omega]; exact hit3⟩ hS₃ (ItemsOf.nil _) fun s' acc' c' hm hS' hacc => ?_⟩
    show wpAny _ A (load s.heap.objs.size >>= _) _ _ s'
    refine wpAny_bind (wpAny_load hS' ?_)
    refine wpAny_pure (hQ s' acc' ?_ hacc)
    refine ⟨fun b o hb e => ?_, hm.gens, hm.drawn, hm.os, ?_⟩
    · have hbs : b ≠ s.heap.objs.size := Nat.ne_of_lt (Heap.lt_size e)
      refine hm.heap b o (fun hmem => ?_) (oth b o hbs (Heap.get?_push_of_some _ e))
      rcases List.mem_cons.mp hmem with e' | hmem
      · exact hbs e'
      · exact hb hmem
    · exact Nat.le_trans hk hm.toks
end
noncomputable def one (c : Nat) : Str := ⟨#[c]⟩
theorem strs_rs {x : Str} {acc : Array Value} (h : ItemsOf (fun i v => ∃ c tk, x.cps[x.length - 1 - i]? = some c ∧ v = .str ⟨#[c]⟩ tk) acc x.length) : StrsAre acc.toList (x.cps.toList.reverse.map one) := by
  obtain ⟨h1, h2⟩ := h
  have hz : acc.toList.length = (x.cps.toList.reverse.map one).length := by simp [h1, Str.length]
  have key : ∀ (i : Nat) (v : Value), acc.toList[i]? = some v → ∃ (y : Str) (t : Tok), (x.cps.toList.reverse.map one)[i]? = some y ∧ v = .str y t := by
    intro i v hv
    have hv' : acc[i]? = some v := by simpa using hv
    have hi : i < x.length := by
      have h3 := (Array.getElem?_eq_some_iff.mp hv').1
      omega
    obtain ⟨c, tk, hc, rfl⟩ := h2 i v hv'
    refine ⟨⟨#[c]⟩, tk, ?_, rfl⟩
    have hl : x.cps.toList.length = x.length := by simp [Str.length]
    rw [List.getElem?_map, List.getElem?_reverse (by omega), hl, Array.getElem?_toList, hc]
    rfl
  generalize x.cps.toList.reverse.map one = ys at hz key
  generalize acc.toList = L at hz key
  clear h1 h2
  induction L generalizing ys with
  | nil =>
    cases ys with
    | nil => exact .nil
    | cons y r => simp at hz
  | cons v L ih =>
    cases ys with
    | nil => simp at hz
    | cons y ys =>
      obtain ⟨y', t, hy, rfl⟩ := key 0 v rfl
      have ey : y = y' := Option.some.inj hy
      subst ey
      exact .cons y t (ih ys (by simpa using hz) fun i v' hv => key (i + 1) v' (by simpa using hv))
section
variable {prog : Program} {w : World} {A : Around} {E : Value → Shared → Prop} {s : Shared}
theorem join_rs {I : Addr} {x a : Str} {t u : Tok} {Q : Value → Shared → Prop} (hh : A.handled = none) (hz : x.length ≤ sizeLine) (hit : IsRs s.heap I x t ((x.length : Int) - 1))
    (hok : x.length + x.length * a.length ≤ 16777216)
    (hq : ∀ s', Moved [I] (fun a b => b = a) s s' → ∀ t' k, Q (.str (Txt.join a (x.cps.toList.reverse.map one)) t') { s' with toks := k }) :
    wpAny (model prog w) A (call (.builtin "str.join") [.str a u, .ref I]) Q E s := by
  have hT : s.TypeIs (.ref I) "reversed" := hit.typeIs
  have hl : x.cps.toList.length = x.length := by simp [Str.length]
  have hok2 : ((x.cps.toList.reverse.map one).map (·.length)).sum + (x.cps.toList.reverse.map one).length * a.length ≤ 16777216 := by
    have e1 : ((x.cps.toList.reverse.map one).map (·.length)).sum = x.length := by
      rw [List.map_map, show ((fun y : Str => y.length) ∘ one) = fun _ => 1 from rfl]
      rw [List.map_const', List.sum_replicate_nat]
      simp [Str.length]
    rw [e1, List.length_map, List.length_reverse, hl]
    exact hok
  refine wpAny_call (codeAny_call_builtin F.slot_str_join.plain F.entry_str_join (F.slot_str_join.check _ _ _ _ _ _ _ _ (typeIs_str _ _ _) (F.args_str_join_2 _ _) ?_))
  rw [join_tree_other]
  refine wpAny_bind (wpAny_typeOf hT ?_)
  show wpAny _ A.in1 ((pyIter (.ref I)).tryCatch _ >>= fun it => collect it >>= fun items => joinTail a items) _ _ s
  refine wpAny_bind (wpAny_tryCatch (iter_rs hit ?_))
  refine wpAny_bind (collect_rs (A := A.in1) hh hz hit fun s' acc hm hacc => ?_)
  obtain ⟨l, hl2, ht⟩ := strsAre_values (strs_rs hacc)
  rw [hl2]
  rw [← ht] at hok2 hq
  have hok' := joinOk_of hok2
  unfold JoinOk at hok'
  rw [Bool.not_eq_true'] at hok'
  have g : Gives (joinTail a (strValues l)) (joinMade a l) := by
    have g0 := gives_joinTail a l hok'
    cases l with
    | nil => exact g0
    | cons p r => cases r with
      | nil => exact g0
      | cons q r' => exact g0
  exact g prog w A (wants Q E) s' (post_join l ⟨joinFit_length hok', hq s' hm⟩)
end
end RevS
namespace L2
open PySem PySem.Spec PyProof.Rows
noncomputable def tJoinRev (to te : TE) : TE := fun σ H Q => to σ H fun x H1 => (∃ a, x = .str a) ∧ te σ H1 fun v H2 => ∃ (a z : Str), x = .str a ∧ v = .str z ∧ z.length ≤ sizeLine ∧ z.length + z.length * a.length ≤ 16777216 ∧
  Q (.str (Txt.join a (z.cps.toList.reverse.map RevS.one))) H2
theorem pe_joinRev {X : Cx} {o e : Expr} {to te : TE} {apos pos p pos2 : Pos} (hc : X.calm = true) (ho : PE X o to) (hg : Gl X "reversed") (hm : X.mg "reversed" = none) (he : PE X e te)
    (hs1 : starEach [.Call (.Name "reversed" p) [e] [] pos2] X.env = [(false, eval (.Call (.Name "reversed" p) [e] [] pos2) X.env)] := by rfl)
    (hs : starEach [e] X.env = (false, eval e X.env) :: starEach [] X.env := by rfl)
    (hbase : attributeBase o "join" X.env (eval o X.env) = eval o X.env := by rfl) (hline : (apos.endLine == pos.line) = true := by rfl) :
    PE X (.Call (.Attribute o "join" apos) [.Call (.Name "reversed" p) [e] [] pos2] [] pos) (tJoinRev to te) := by
  refine ⟨fun pins s σ H Q I h => ?_⟩
  refine PySem.Call_method1 hbase hs1 hline (thn (ho.run pins s σ H _ I h) fun v s1 ⟨x, H1, I1, r1, q1⟩ => ?_)
  obtain ⟨⟨a, rfl⟩, q1⟩ := q1
  obtain ⟨t, rfl⟩ := _root_.id r1
  refine ⟨"str", _, F.plainAttrs_str, F.slot_str_join, F.type_str_join, typeIs_str _ _ _, (fun _ e => nomatch e), Calls.callWith_builtin rfl (Calls.evalArgs_plain (Calls.spliced_cons ?_))⟩
  refine Call_ (ld_blt I1 hg hm PyProof.Rows.boot_reversed (PyProof.Rows.callWith_type1 (args_cons (thn (he.run pins s1 σ H1 _ I1 q1) fun u s2 ⟨v, H2, I2, r2, q2⟩ => args_nil ?_) hs) hs rfl))
  obtain ⟨a', z, ea, ev, hz, hk, q⟩ := q2
  cases ea
  subst ev
  obtain ⟨t2, rfl⟩ := _root_.id r2
  refine RevS.call_reversed_str hz (Calls.spliced_nil ?_)
  have hit : RevS.IsRs (s2.heap.push (RevS.rsObj z t2 ((z.length : Int) - 1))) s2.heap.objs.size z t2 ((z.length : Int) - 1) := ⟨_, Heap.get?_push_size _ rfl, rfl, rfl⟩
  refine RevS.join_rs (s := { s2 with heap := s2.heap.push (RevS.rsObj z t2 ((z.length : Int) - 1)), toks := s2.toks + 1 + 1 }) (I2.ok.hd hc) hz hit hk fun s' hm' t' k => ?_
  have kp : ∀ b o, s2.heap.get? b = some o → s'.heap.get? b = some o := fun b o e => hm'.heap b o (by
    simp only [List.mem_singleton]
    exact Nat.ne_of_lt (Heap.lt_size e)) (Heap.get?_push_of_some _ e)
  rw [Moved.eq_with hm']
  exact ⟨.str _, H2, I2.kept (t' := k) kp, ⟨t', rfl⟩, q⟩
end L2
namespace SetS
open PySem PySem.Spec PyProof.Rows
noncomputable def cnt (xs : List Str) : Nat → Nat
  | 0 => 0
  | i + 1 => if (xs.take i).any (· == xs.getD i Str.empty) = true then cnt xs i else cnt xs i + 1
theorem cnt_le (xs : List Str) : ∀ i, cnt xs i ≤ i
  | 0 => Nat.le_refl _
  | i + 1 => by
    have := cnt_le xs i
    unfold cnt
    split <;> omega
noncomputable abbrev nude (b : Bool) : Obj := ⟨.type "set", none, .set #[] 0 (.fresh 0 0 b), #[]⟩
section
variable {prog : Program} {w : World} {A : Around} {E : Value → Shared → Prop}
noncomputable def Told (g : Program) (w : World) (a : Addr) (xs : List Str) (i : Nat) (h : Heap) : Prop := h.SetOf (strKind g w) a (fun z => (xs.take i).any (· == z)) (cnt xs i)
theorem Told.keep {a : Addr} {xs : List Str} {i : Nat} {h h' : Heap} (T : Told prog w a xs i h) (k : ∀ o, h.get? a = some o → h'.get? a = some o) : Told prog w a xs i h' := by
  obtain ⟨o, es, ep, tb, at', more⟩ := T
  exact ⟨o, es, ep, tb, k o at', more⟩
theorem told_next {a : Addr} {xs : List Str} {i : Nat} {h : Heap} (hi : i < xs.length)
    (T : h.SetOf (strKind prog w) a (fun z => (xs.take i).any (· == z) || decide (z = xs.getD i Str.empty)) (if (xs.take i).any (· == xs.getD i Str.empty) = true then cnt xs i else cnt xs i + 1)) : Told prog w a xs (i + 1) h := by
  refine SetOf_congr T (fun z => ?_) rfl
  have e : xs.take (i + 1) = xs.take i ++ [xs.getD i Str.empty] := by
    rw [List.take_succ, List.getElem?_eq_getElem hi, List.getD_eq_getElem?_getD, List.getElem?_eq_getElem hi]
    rfl
  rw [e, List.any_append]
  congr 1
  by_cases q : z = xs.getD i Str.empty
  · rw [decide_eq_true q, q]; simp
  · rw [decide_eq_false q]
    have : (xs.getD i Str.empty == z) = false := beq_eq_false_iff_ne.mpr fun z' => q z'.symm
    rw [List.any_cons, this]
    rfl
theorem add_str {a : Addr} {xs : List Str} {i : Nat} {u : Tok} {s : Shared} {Q : Bool → Shared → Prop} (hi : i < xs.length) (room : i + 1 < scanBound) (T : Told prog w a xs i s.heap)
    (q : ∀ h' b, Heap.SameBut a s.heap h' → Told prog w a xs (i + 1) h' → Q b ⟨h', s.gens, s.drawn, s.toks + 1, s.os⟩) : wpAny (model prog w) A (setAdd a (.str (xs.getD i Str.empty) u)) Q E s := by
  have fits := Nat.lt_of_le_of_lt (Nat.succ_le_succ (cnt_le xs i)) room
  unfold setAdd
  refine wpAny_holding (wpAny_bind ((strKind prog w).pyHash (strKind_is _ _ _ u) ?_))
  exact wpAny_setAddHashed_of (s := { s with toks := s.toks + 1 }) (strKind_is _ _ _ _) rfl T fits fun h' same T2 => q h' _ same (told_next hi T2)
theorem fill {R : Result → Shared → Prop} {it a : Addr} {fp wr : List Addr} {G : Array GenState → Array GenState → Prop} {P : Nat → Value → Prop} {St : Nat → Shared → Prop} (xs : List Str)
    (W : WalksS prog w A.in1 it fp wr G xs.length P St) (ha : a ∉ fp) (room : xs.length < scanBound) (each : ∀ i v, P i v → ∃ u, v = .str (xs.getD i Str.empty) u) :
    ∀ (j i : Nat) (s : Shared), i + j = xs.length → St i s → Told prog w a xs i s.heap → (∀ z, Moved (a :: wr) G s z → Told prog w a xs xs.length z.heap → R (.ok (.ret .none)) z) →
      codeAny (model prog w) A (.builtin "set.update.loop" ⟨[.ref a, .ref it], []⟩) R s := by
  have out : a ∉ wr := fun z => ha (W.sub a z)
  have more : ∀ {s z : Shared}, Moved wr G s z → Moved (a :: wr) G s z := fun m => m.mono fun b hb => .tail _ hb
  intro j
  induction j with
  | zero =>
    intro i s e st T fin
    obtain rfl : i = xs.length := by omega
    refine codeAny_builtin F.entry_set_update_loop ?_
    rw [Around.under_plainId F.plain_set_update_loop _]
    refine wpAny_bind (f := fun x => _) (W.done s _ _ st fun z m => ?_)
    exact wpAny_pure (M := model prog w) (A := A.in1) (fin z (more m) (T.keep fun o h => m.heap a o out h))
  | succ j ih =>
    intro i s e st T fin
    have lt : i < xs.length := by omega
    refine codeAny_builtin F.entry_set_update_loop ?_
    rw [Around.under_plainId F.plain_set_update_loop _]
    refine wpAny_bind (f := fun x => _) (W.item i s _ _ lt st fun v z hv st' m => ?_)
    obtain ⟨u, rfl⟩ := each i v hv
    refine wpAny_bind (f := fun x => _) (wpAny_holding (add_str lt (by omega) (T.keep fun o h => m.heap a o out h) fun h' b same T' => ?_))
    refine wpAny_pure (M := model prog w) (A := A.in1) ⟨plainId_quiet F.plain_set_update_loop _, ih (i + 1) _ (by omega) (W.frame _ z _ _ st' (Nat.le_succ _) fun b hb o h => (same.2 b fun q => ha (q ▸ hb)).trans h) T' fun z' m' T2 => fin z' ?_ T2⟩
    exact ((more m).then_heap (Nat.le_succ _) fun b o hb h => (same.2 b fun q => hb (q ▸ List.mem_cons_self ..)).trans h).trans W.gtrans m'
end
section
variable {prog : Program} {w : World} {A : Around} {E : Value → Shared → Prop} {s : Shared}
set_option maxHeartbeats 3200000 in
theorem make {x : Str} {t : Tok} {Q : Value → Shared → Prop} (led0 : A.handled = none) (room : x.length < scanBound)
    (q : ∀ (h' : Heap) (tk : Nat), Told prog w s.heap.objs.size (signs x) (signs x).length h' → (∀ b o, s.heap.get? b = some o → h'.get? b = some o) → Q (.ref s.heap.objs.size) { s with heap := h', toks := tk }) :
    wpAny (model prog w) A (call (.type "set") [.str x t]) Q E s := by
  obtain ⟨c0, rest, mro⟩ := PySem.F.called_set.mro
  have c1 := PySem.F.called_set.made
  have c2 := PySem.F.called_set.sub
  have c3 := PySem.F.called_set.notType
  have c4 := PySem.F.called_set.canCreate
  have c5 := PySem.F.typeCall_set_1 (.str x t)
  refine wpAny_call (codeAny_of_tree ?_)
  show wpAny _ _ (callAny (.type "set") _) _ _ _
  refine wpAny_pure ⟨Code.quiet_builtin _ (by decide +kernel), codeAny_builtin PySem.F.entry_type_call ?_⟩
  rw [Around.under_plain (weight_type_call_type "set" [.str x t] []) rfl]
  repeat (any_goals (first | assumption | wp_step))
  refine codeAny_mono (code_set_new_1 (.str x t) (E := E) (Q₁ := fun v z => ∃ b, v = .ref s.heap.objs.size ∧ z = { s with heap := s.heap.push (nude b) }) fun b => ⟨b, rfl, rfl⟩) fun r z hr => ?_
  cases r with
  | error e => exact hr
  | ok fl =>
    cases fl with
    | ret v =>
      obtain ⟨b, rfl, rfl⟩ := hr
      have here : (s.heap.push (nude b)).get? s.heap.objs.size = some (nude b) := Heap.get?_push_size _ rfl
      have kind : Shared.TypeIs { s with heap := s.heap.push (nude b) } (.ref s.heap.objs.size) "set" := ⟨_, here, rfl⟩
      have c6 := PySem.F.called_set.init.lookup
      have c7 := PySem.F.called_set.init.bind (.ref s.heap.objs.size)
      repeat (any_goals (first | assumption | wp_step))
      refine codeAny_mono (codeAny_call_builtin (R := wants (fun r z => r = .none ∧ ∃ h' tk, z = { s with heap := h', toks := tk } ∧ Told prog w s.heap.objs.size (signs x) (signs x).length h' ∧ (∀ b o, s.heap.get? b = some o → h'.get? b = some o)) E)
        PySem.F.called_set.init.plain PySem.F.entry_set_init (check_set_init_1 kind ?_)) fun r z hr => ?_
      · have n1 := PySem.F.sub_str_set
        have n2 := PySem.F.sub_str_frozenset
        have n3 : (Value.type "str" == Value.type "dict") = false := by decide
        unfold Builtin.«set.__init__» noKeywords Builtin.Frozenset.updateFrom
        generalize hI : pyIter = I
        wp_walk
        subst hI
        refine wpAny_pyIter_str fun o St W st => ?_
        refine wpAny_bind (wpAny_runValue ?_)
        have led3 : A.in1.in1.in1.handled = none := by simp [led0]
        have here2 := Heap.get?_push_of_some o here
        have ln : (signs x).length = x.cps.size := signs_length x
        have sz : (s.heap.push (nude b)).objs.size = s.heap.objs.size + 1 := Heap.size_push ..
        have apart : s.heap.objs.size ∉ [(s.heap.push (nude b)).objs.size] := fun hb => by
          have hb := List.mem_singleton.mp hb
          rw [sz] at hb
          omega
        have each : ∀ i v, SignAt x i v → ∃ u, v = .str ((signs x).getD i Str.empty) u := fun i v ⟨c, u, hc, ev⟩ => ⟨u, by rw [ev, List.getD_eq_getElem?_getD, signs_get hc]; rfl⟩
        have none' : Told prog w s.heap.objs.size (signs x) 0 ((s.heap.push (nude b)).push o) := SetOf_congr ((setObjOf_fresh (knd := strKind prog w) b).setOf here2 (by unfold scanBound; omega)) (fun _ => rfl) rfl
        refine fill (signs x) (ln ▸ (W _ led3).toS) apart (by rw [ln]; exact room) each _ 0 _ (Nat.zero_add _) st none' fun z m T => ?_
        obtain ⟨h', g', d', tk', os'⟩ := z
        obtain rfl : g' = s.gens := m.gens
        obtain rfl : d' = s.drawn := m.drawn
        obtain rfl : os' = s.os := m.os
        refine wpAny_pure (M := model prog w) ?_
        refine wpAny_pure (M := model prog w) ⟨rfl, h', tk', rfl, T, fun b' o' e => m.heap b' o' ?_ (Heap.get?_push_of_some _ (Heap.get?_push_of_some _ e))⟩
        have lt := Heap.lt_size e
        rw [sz]
        simp only [List.mem_cons, List.not_mem_nil, or_false, not_or]
        exact ⟨Nat.ne_of_lt lt, Nat.ne_of_lt (Nat.lt_succ_of_lt lt)⟩
      · cases r with
        | error e => exact hr
        | ok fl =>
          cases fl with
          | ret v =>
            obtain ⟨rfl, h', tk, rfl, T, keep⟩ := hr
            repeat (any_goals (first | assumption | wp_step))
            exact q _ _ T keep
          | _ => exact hr.elim
    | _ => exact hr.elim
end
end SetS
namespace L2
open PySem PySem.Spec PyProof.Rows
noncomputable def tLenSetS (ta : TE) : TE := fun σ H Q => ta σ H fun v H1 => ∃ x : Str, v = .str x ∧ x.length < scanBound ∧ Q (.int (SetS.cnt (signs x) (signs x).length : Nat)) H1
section
variable {X : Cx}
theorem pe_lenSetS {a : Expr} {ta : TE} {p p2 q pos : Pos} (calm : X.calm = true) (g1 : Gl X "len") (m1 : X.mg "len" = none) (g2 : Gl X "set") (m2 : X.mg "set" = none) (ha : PE X a ta)
    (st : starEach [a] X.env = (false, eval a X.env) :: starEach [] X.env := by rfl) : PE X (.Call (.Name "len" p) [.Call (.Name "set" p2) [a] [] q] [] pos) (tLenSetS ta) := by
  refine ⟨fun pins s σ H Q I h => Call_ (ld_blt I g1 m1 boot_len (callWith_builtin1 (args_cons ?_ rfl) rfl rfl))⟩
  refine Call_ (ld_blt I g2 m2 boot_set (callWith_type1 (args_cons (thn (ha.run pins s σ H _ I h) fun v z ⟨y, H1, I1, r1, x, ex, room, q1⟩ => args_nil ?_) st) st rfl))
  subst ex
  obtain ⟨t, rfl⟩ := r1
  refine SetS.make (I1.ok.hd calm) room fun h' tk T keep => args_nil ?_
  obtain ⟨o, es, ep, tb, at', exact', data, _, _, _, fit, many⟩ := T
  have small : SetS.cnt (signs x) (signs x).length < scanBound := Nat.lt_of_le_of_lt (SetS.cnt_le _ _) (by rw [signs_length]; exact room)
  have I2 : Inv X pins σ H1 { z with heap := h', toks := tk } := I1.kept keep
  exact call_len_set at' exact' data fit (by rw [many]; unfold scanBound at small; omega) ⟨.int (SetS.cnt (signs x) (signs x).length : Nat), H1, I2.tok _, ⟨_, by rw [many]⟩, q1⟩
end
end L2
namespace Tw
def aRfl : Lean.Syntax := .node .none `Lean.Parser.Tactic.tacticSeq #[.node .none `Lean.Parser.Tactic.tacticSeq1Indented #[.node .none `null #[.node .none `Lean.Parser.Tactic.tacticRfl #[.atom .none "rfl"]]]]
open PySem PySem.Spec PyProof.Rows L2 TL
class Rep (α : Type) where
  rp : PySem.W.Frag → Hp → V → α → Prop
  mono : ∀ {K : PySem.W.Frag} {F F' : Hp} {v : V} {x : α}, Same F F' → rp K F v x → rp K F' v x
noncomputable abbrev rp {α : Type} {i : Rep α} (K : PySem.W.Frag) (F : Hp) (v : V) (x : α) : Prop := i.rp K F v x
noncomputable abbrev Tx := List Nat
noncomputable def sx (x : Tx) : Str := ⟨x.toArray⟩
theorem tl_sx (x : Tx) : tl (sx x) = x := rfl
theorem sx_inj {x y : Tx} (h : sx x = sx y) : x = y := by have := congrArg tl h; simpa [tl_sx] using this
theorem sx_len (x : Tx) : (sx x).length = x.length := by rw [len_tl]; rfl
theorem sx_app (x y : Tx) : sx x ++ sx y = sx (x ++ y) := ext_tl (by rw [tl_append]; rfl)
noncomputable instance repInt : Rep Int := ⟨fun _ _ v x => v = .int x, fun _ h => h⟩
noncomputable instance repBool : Rep Bool := ⟨fun _ _ v x => v = .bl x, fun _ h => h⟩
noncomputable instance repUnit : Rep Unit := ⟨fun _ _ v _ => v = .non, fun _ h => h⟩
noncomputable instance repTx : Rep (List Nat) := ⟨fun _ _ v x => v = .str (sx x), fun _ h => h⟩
noncomputable instance repList {α : Type} [i : Rep α] : Rep (List α) := ⟨fun K H v xs => ∃ a vs, v = .ref a ∧ H a = some (.lst vs) ∧ Paired (fun u x => i.rp K H u x) vs xs,
  fun s ⟨a, vs, e, h, p⟩ => ⟨a, vs, e, s _ _ h, Paired.mapP p fun _ _ q => i.mono s q⟩⟩
set_option genInjectivity true in
structure Tup (α : Type) where
  l : List α
noncomputable instance repTup {α : Type} [i : Rep α] : Rep (Tup α) := ⟨fun K H v xs => ∃ a vs, v = .ref a ∧ H a = some (.tup vs) ∧ Paired (fun u x => i.rp K H u x) vs xs.l,
  fun s ⟨a, vs, e, h, p⟩ => ⟨a, vs, e, s _ _ h, Paired.mapP p fun _ _ q => i.mono s q⟩⟩
noncomputable instance repPair {α β : Type} [i : Rep α] [j : Rep β] : Rep (α × β) := ⟨fun K H v x => ∃ a u w, v = .ref a ∧ H a = some (.tup [u, w]) ∧ i.rp K H u x.1 ∧ j.rp K H w x.2,
  fun s ⟨a, u, w, e, h, p, q⟩ => ⟨a, u, w, e, s _ _ h, i.mono s p, j.mono s q⟩⟩
noncomputable instance repOpt {α : Type} [i : Rep α] : Rep (Option α) := ⟨fun K H v x => match x with | none => v = .non | some y => i.rp K H v y,
  fun {K F F' v x} s h => by cases x with | none => exact h | some y => exact i.mono s h⟩
structure Scr where
  l : List Int
noncomputable instance repScr : Rep Scr := ⟨fun K H v x => ∃ a, v = .ref a ∧ SqL K H a (x.l.map V.int), fun s ⟨a, e, h⟩ => ⟨a, e, s.seq h⟩⟩
noncomputable abbrev Rps {α : Type} [i : Rep α] (K : PySem.W.Frag) (F : Hp) (vs : List V) (xs : List α) : Prop := Paired (fun u x => i.rp K F u x) vs xs
section
variable {α β : Type} [i : Rep α] [j : Rep β] {K : PySem.W.Frag} {F F' : Hp} {vs : List V} {xs : List α}
theorem Rps.mono (s : Same F F') (h : Rps K F vs xs) : Rps K F' vs xs := Paired.mapP h fun _ _ q => i.mono s q
theorem Rps.len (h : Rps K F vs xs) : vs.length = xs.length := Paired.length h
theorem pgetL {A B : Type} {G : A → B → Prop} : ∀ {l : List A} {m : List B} {k : Nat} {b : B}, Paired G l m → m[k]? = some b → ∃ a, l[k]? = some a ∧ G a b
  | _, _, 0, _, .cons r _, e => by simp at e; subst e; exact ⟨_, rfl, r⟩
  | _, _, k + 1, b, .cons _ t, e => by
    obtain ⟨a, h1, h2⟩ := pgetL (k := k) (b := b) t (by simpa using e)
    exact ⟨a, by simpa using h1, h2⟩
theorem ptake {A B : Type} {G : A → B → Prop} : ∀ {l : List A} {m : List B} (n : Nat), Paired G l m → Paired G (l.take n) (m.take n)
  | _, _, 0, _ => .nil
  | _, _, _ + 1, .nil => .nil
  | _, _, n + 1, .cons r t => .cons r (ptake n t)
theorem pdrop {A B : Type} {G : A → B → Prop} : ∀ {l : List A} {m : List B} (n : Nat), Paired G l m → Paired G (l.drop n) (m.drop n)
  | _, _, 0, r => r
  | _, _, _ + 1, .nil => .nil
  | _, _, n + 1, .cons _ t => pdrop n t
theorem papp {A B : Type} {G : A → B → Prop} : ∀ {l l' : List A} {m m' : List B}, Paired G l m → Paired G l' m' → Paired G (l ++ l') (m ++ m')
  | _, _, _, _, .nil, s => s
  | _, _, _, _, .cons r t, s => .cons r (papp t s)
theorem Rps.ints {ns : List Int} : ∀ {vs : List V}, Paired (fun u x => repInt.rp K F u x) vs ns → vs = ns.map V.int := by
  induction ns with
  | nil => intro vs h; cases h; rfl
  | cons n ns ih =>
    intro vs h
    cases h with
    | cons r t =>
      obtain rfl : _ = V.int n := r
      rw [ih t]
      rfl
theorem Rps.bls {ns : List Bool} : ∀ {vs : List V}, Paired (fun u x => repBool.rp K F u x) vs ns → vs = ns.map V.bl := by
  induction ns with
  | nil => intro vs h; cases h; rfl
  | cons n ns ih =>
    intro vs h
    cases h with
    | cons r t =>
      obtain rfl : _ = V.bl n := r
      rw [ih t]
      rfl
theorem Rps.strs {ns : List Tx} : ∀ {vs : List V}, Paired (fun u x => repTx.rp K F u x) vs ns → vs = (ns.map sx).map V.str := by
  induction ns with
  | nil => intro vs h; cases h; rfl
  | cons n ns ih =>
    intro vs h
    cases h with
    | cons r t =>
      obtain rfl : _ = V.str (sx n) := r
      rw [ih t]
      rfl
end
structure ExtM (M : Addr → Prop) (F H F' H' : Hp) : Prop where
  ff : Same F F'
  fh : Same F' H'
  hh : ∀ b o, ¬ M b → H b = some o → H' b = some o
  nwM : ∀ a, ¬ M a → F a = none → H a ≠ none → F' a = none
  th : ∀ a, M a → H a ≠ none → H' a ≠ none
noncomputable abbrev M0 : Addr → Prop := fun _ => False
noncomputable abbrev Ext := ExtM M0
theorem Ext.hs {F H F' H' : Hp} (e : Ext F H F' H') : Same H H' := fun b o h => e.hh b o (fun z => z) h
theorem Ext.refl {F H : Hp} (h : Same F H) : Ext F H F H := ⟨Same.refl F, h, fun _ _ _ h => h, fun _ _ h _ => h, fun _ z => z.elim⟩
theorem ExtM.nw {F H F' H' : Hp} (e : Ext F H F' H') (a : Addr) (h1 : F a = none) (h2 : H a ≠ none) : F' a = none := e.nwM a (fun z => z) h1 h2
theorem ExtM.trans {M : Addr → Prop} {F H F1 H1 F2 H2 : Hp} (a : ExtM M F H F1 H1) (b : Ext F1 H1 F2 H2) : ExtM M F H F2 H2 :=
  have keep : ∀ x, H1 x ≠ none → H2 x ≠ none := fun x h z => by
    cases q : H1 x with
    | none => exact h q
    | some o => rw [b.hs _ _ q] at z; cases z
  ⟨a.ff.trans b.ff, b.fh, fun x o hx h => b.hs _ _ (a.hh x o hx h), fun x hx h1 h2 => b.nw x (a.nwM x hx h1 h2) (by
    intro z
    cases q : H x with
    | none => exact h2 q
    | some o => rw [a.hh x o hx q] at z; cases z), fun x hx h => keep x (a.th x hx h)⟩
theorem Ext.trans {F H F1 H1 F2 H2 : Hp} (a : Ext F H F1 H1) (b : Ext F1 H1 F2 H2) : Ext F H F2 H2 := ExtM.trans a b
theorem Ext.new {F H : Hp} (h : Same F H) {p : Addr} {o : HO} (hp : H p = none) : Ext F H (upd F p o) (upd H p o) := by
  have fp : F p = none := h.free hp
  refine ⟨fun b u e => ?_, fun b u e => ?_, fun b u _ e => ?_, fun b _ e ne => ?_, fun _ z => z.elim⟩
  · rw [upd_ne (ne_of_none e fp)]; exact e
  · by_cases hb : b = p
    · subst hb; rw [upd_same] at e ⊢; exact e
    · rw [upd_ne hb] at e ⊢; exact h _ _ e
  · rw [upd_ne (ne_of_none e hp)]; exact e
  · rw [upd_ne (fun z => by subst z; exact ne hp)]; exact e
theorem Ext.apart {F H : Hp} (h : Same F H) {p : Addr} {o : HO} (hp : H p = none) : Ext F H F (upd H p o) :=
  ⟨Same.refl F, fun b u e => by rw [upd_ne (ne_of_none (h _ _ e) hp)]; exact h _ _ e, fun b u _ e => by rw [upd_ne (ne_of_none e hp)]; exact e, fun _ _ e _ => e, fun _ z => z.elim⟩
theorem same_upd {F H : Hp} (h : Same F H) {p : Addr} {o : HO} (fp : F p = none) : Same F (upd H p o) := fun b u e => by
  rw [upd_ne (ne_of_none e fp)]; exact h _ _ e
structure Own where
  fp : List Addr
  root : V
  ok : PySem.W.Frag → Hp → Hp → V → Prop
  stay : ∀ {K : PySem.W.Frag} {F F' H H' : Hp} {v : V}, Same F F' → (∀ b ∈ fp, ∀ o, H b = some o → H' b = some o) → ok K F H v → ok K F' H' v
  there : ∀ {K : PySem.W.Frag} {F H : Hp} {v : V}, ok K F H v → ∀ b ∈ fp, H b ≠ none
  rt : ∀ {K : PySem.W.Frag} {F H : Hp} {v : V}, ok K F H v → v = root
noncomputable def ownL {α : Type} (i : Rep α) (a : Addr) (xs : List α) : Own where
  fp := [a]
  root := .ref a
  ok := fun K F H v => v = .ref a ∧ ∃ vs, H a = some (.lst vs) ∧ Paired (fun u x => i.rp K F u x) vs xs
  stay := fun s k ⟨e, vs, h, p⟩ => ⟨e, vs, k a (List.mem_singleton.mpr rfl) _ h, Paired.mapP p fun _ _ q => i.mono s q⟩
  there := fun ⟨_, vs, h, _⟩ b hb z => by rw [List.mem_singleton.mp hb, h] at z; cases z
  rt := fun h => h.1
set_option genInjectivity true in
inductive Slot : Type 1 where
  | no
  | val {α : Type} (i : Rep α) (x : α)
  | own (o : Own)
noncomputable abbrev Slot.lst {α : Type} (i : Rep α) (a : Addr) (xs : List α) : Slot := .own (ownL i a xs)
noncomputable abbrev vl {α : Type} [i : Rep α] (x : α) : Slot := .val i x
noncomputable abbrev ls {α : Type} [i : Rep α] (a : Addr) (xs : List α) : Slot := .lst i a xs
set_option genInjectivity true in
inductive Ret : Type 1 where
  | val {α : Type} (i : Rep α) (x : α)
  | new {α : Type} (i : Rep α) (xs : List α)
  | own (P : Own → Prop)
  | chg {α : Type} (i : Rep α) (x : α) (os : List Own)
noncomputable abbrev rv {α : Type} [i : Rep α] (x : α) : Ret := .val i x
noncomputable abbrev rn {α : Type} [i : Rep α] (xs : List α) : Ret := .new i xs
structure Bs where
  F : Hp
  H : Hp
  M : Addr → Prop
noncomputable def Bs.nw (B : Bs) (b : Addr) : Prop := B.H b = none ∨ B.M b
noncomputable def SlotOk (K : PySem.W.Frag) (B : Bs) (F H : Hp) (ov : Option V) : Slot → Prop
  | .no => True
  | .val i x => ∃ v, ov = some v ∧ i.rp K F v x
  | .own o => ∃ v, ov = some v ∧ o.ok K F H v ∧ ∀ b ∈ o.fp, F b = none ∧ B.nw b
noncomputable def Slot.isOwn : Slot → Bool
  | .own _ => true
  | _ => false
noncomputable def Apart (Γ : List Slot) : Prop := ∀ (i j : Nat) o1 o2, i ≠ j → Γ[i]? = some (.own o1) → Γ[j]? = some (.own o2) → ∀ b ∈ o1.fp, b ∉ o2.fp
structure Lc (K : PySem.W.Frag) (B : Bs) (F H : Hp) (σ : L2.St) (Γ : List Slot) : Prop where
  ext : ExtM B.M B.F B.H F H
  len : σ.length = Γ.length
  ok : ∀ (i : Nat) s, Γ[i]? = some s → SlotOk K B F H (σ[i]?).join s
  ap : Apart Γ
section
variable {K : PySem.W.Frag} {B : Bs} {F H F' H' : Hp} {σ : L2.St} {Γ : List Slot} {α : Type} {i : Rep α}
theorem Lc.same (L : Lc K B F H σ Γ) : Same F H := L.ext.fh
theorem Lc.there (L : Lc K B F H σ Γ) : ∀ x, B.M x → B.H x ≠ none → H x ≠ none := L.ext.th
theorem Lc.nw (L : Lc K B F H σ Γ) {b : Addr} (h : H b = none) : B.nw b := by
  by_cases hm : B.M b
  · exact .inr hm
  · refine .inl ?_
    cases q : B.H b with
    | none => rfl
    | some o => rw [L.ext.hh b o hm q] at h; cases h
theorem SlotOk.step {ov : Option V} {s : Slot} (e : Ext F H F' H') (h : SlotOk K B F H ov s) : SlotOk K B F' H' ov s := by
  cases s with
  | no => trivial
  | val i x => obtain ⟨v, e1, r⟩ := h; exact ⟨v, e1, i.mono e.ff r⟩
  | own o =>
    obtain ⟨v, e1, ok, f⟩ := h
    exact ⟨v, e1, o.stay e.ff (fun b _ u q => e.hs _ _ q) ok, fun b hb => ⟨e.nw b (f b hb).1 (o.there ok b hb), (f b hb).2⟩⟩
theorem Lc.step (L : Lc K B F H σ Γ) (e : Ext F H F' H') : Lc K B F' H' σ Γ := ⟨L.ext.trans e, L.len, fun j s h => (L.ok j s h).step e, L.ap⟩
theorem slot_val {k : Nat} {x : α} (L : Lc K B F H σ Γ) (h : Γ[k]? = some (.val i x)) : ∃ v, σ[k]? = some (some v) ∧ i.rp K F v x := by
  obtain ⟨v, e, r⟩ := L.ok k _ h
  refine ⟨v, ?_, r⟩
  cases q : σ[k]? with
  | none => rw [q] at e; cases e
  | some o => rw [q] at e; rw [← e]; rfl
theorem slot_own {k : Nat} {o : Own} (L : Lc K B F H σ Γ) (h : Γ[k]? = some (.own o)) : ∃ v, σ[k]? = some (some v) ∧ o.ok K F H v ∧ ∀ b ∈ o.fp, F b = none ∧ B.nw b := by
  obtain ⟨v, e, r⟩ := L.ok k _ h
  refine ⟨v, ?_, r⟩
  cases q : σ[k]? with
  | none => rw [q] at e; cases e
  | some o => rw [q] at e; rw [← e]; rfl
theorem slot_lst {k : Nat} {a : Addr} {xs : List α} (L : Lc K B F H σ Γ) (h : Γ[k]? = some (.lst i a xs)) :
    ∃ vs, σ[k]? = some (some (.ref a)) ∧ F a = none ∧ B.nw a ∧ H a = some (.lst vs) ∧ Paired (fun u x => i.rp K F u x) vs xs := by
  obtain ⟨v, e, ⟨rfl, vs, h1, p⟩, f⟩ := slot_own L h
  exact ⟨vs, e, (f a (List.mem_singleton.mpr rfl)).1, (f a (List.mem_singleton.mpr rfl)).2, h1, p⟩
theorem get_set_join {σ : L2.St} {k j : Nat} {o : Option V} : ((σ.set k o)[j]?).join = if k = j ∧ j < σ.length then o else (σ[j]?).join := by
  by_cases h : k = j
  · subst h
    by_cases hl : k < σ.length
    · rw [List.getElem?_set_self hl, if_pos ⟨rfl, hl⟩]; rfl
    · rw [List.getElem?_eq_none (by simpa using hl), if_neg (fun z => hl z.2), List.getElem?_eq_none (by simpa using hl)]
  · rw [List.getElem?_set_ne h, if_neg (fun z => h z.1)]
theorem get_set_slot {Γ : List Slot} {k j : Nat} {o s : Slot} (h : (Γ.set k o)[j]? = some s) : (k = j ∧ j < Γ.length ∧ s = o) ∨ (k ≠ j ∧ Γ[j]? = some s) := by
  by_cases e : k = j
  · subst e
    have hl : k < Γ.length := by
      have := (List.getElem?_eq_some_iff.mp h).1
      simpa using this
    rw [List.getElem?_set_self hl] at h
    exact .inl ⟨rfl, hl, (Option.some.inj h).symm⟩
  · rw [List.getElem?_set_ne e] at h
    exact .inr ⟨e, h⟩
theorem Apart.put (A : Apart Γ) (k : Nat) {s : Slot} (hs : s.isOwn = false) : Apart (Γ.set k s) := fun i j o1 o2 hij h1 h2 => by
  rcases get_set_slot h1 with ⟨_, _, e⟩ | ⟨_, h1⟩
  · rw [← e] at hs; cases hs
  rcases get_set_slot h2 with ⟨_, _, e⟩ | ⟨_, h2⟩
  · rw [← e] at hs; cases hs
  exact A i j o1 o2 hij h1 h2
theorem Apart.putO (A : Apart Γ) (k : Nat) {o : Own} (h : ∀ (j : Nat) o', k ≠ j → Γ[j]? = some (.own o') → ∀ b ∈ o.fp, b ∉ o'.fp) : Apart (Γ.set k (.own o)) := fun i j o1 o2 hij h1 h2 b hb1 hb2 => by
  rcases get_set_slot h1 with ⟨k1, _, e⟩ | ⟨n1, h1⟩
  · cases e
    rcases get_set_slot h2 with ⟨k2, _, e⟩ | ⟨n2, h2⟩
    · exact hij (k1.symm.trans k2)
    · exact h j o2 n2 h2 b hb1 hb2
  · rcases get_set_slot h2 with ⟨k2, _, e⟩ | ⟨n2, h2⟩
    · cases e
      exact h i o1 n1 h1 b hb2 hb1
    · exact A i j o1 o2 hij h1 h2 b hb1 hb2
theorem Lc.put (L : Lc K B F H σ Γ) (k : Nat) {ov : Option V} {s : Slot} (hs : s.isOwn = false) (ho : SlotOk K B F H ov s) : Lc K B F H (σ.set k ov) (Γ.set k s) := by
  refine ⟨L.ext, by simp [L.len], fun j t h => ?_, L.ap.put k hs⟩
  rw [get_set_join]
  rcases get_set_slot h with ⟨e1, e2, rfl⟩ | ⟨e1, h⟩
  · rw [if_pos ⟨e1, by rw [L.len]; exact e2⟩]; exact ho
  · rw [if_neg fun z => e1 z.1]; exact L.ok j t h
theorem Lc.putV (L : Lc K B F H σ Γ) (k : Nat) {v : V} {x : α} (r : i.rp K F v x) : Lc K B F H (σ.set k (some v)) (Γ.set k (.val i x)) := L.put k rfl ⟨v, rfl, r⟩
theorem Lc.putN (L : Lc K B F H σ Γ) (k : Nat) (o : Option V) : Lc K B F H (σ.set k o) (Γ.set k .no) := L.put k rfl trivial
theorem Lc.ne_own (L : Lc K B F H σ Γ) {b : Addr} (hb : H b = none) {j : Nat} {o : Own} (h : Γ[j]? = some (.own o)) : b ∉ o.fp := fun hm => by
  obtain ⟨v, _, ok, _⟩ := slot_own L h
  exact o.there ok b hm hb
theorem Lc.putO (L : Lc K B F H σ Γ) (k : Nat) (e : Ext F H F' H') {o : Own} {v : V} (new : ∀ b ∈ o.fp, H b = none ∧ F' b = none) (ok : o.ok K F' H' v) : Lc K B F' H' (σ.set k (some v)) (Γ.set k (.own o)) := by
  have L' := L.step e
  refine ⟨L'.ext, by simp [L.len], fun j t h => ?_, L.ap.putO k fun j o' _ h b hb => L.ne_own (new b hb).1 h⟩
  rw [get_set_join]
  rcases get_set_slot h with ⟨e1, e2, rfl⟩ | ⟨e1, h⟩
  · rw [if_pos ⟨e1, by rw [L.len]; exact e2⟩]
    exact ⟨v, rfl, ok, fun b hb => ⟨(new b hb).2, L.nw (new b hb).1⟩⟩
  · rw [if_neg fun z => e1 z.1]; exact L'.ok j t h
theorem Lc.putL (L : Lc K B F H σ Γ) (k : Nat) (e : Ext F H F' H') {a : Addr} {vs : List V} {xs : List α} (ha : H a = none) (fa : F' a = none) (h' : H' a = some (.lst vs)) (p : Paired (fun u x => i.rp K F' u x) vs xs) :
    Lc K B F' H' (σ.set k (some (.ref a))) (Γ.set k (.lst i a xs)) := L.putO k e (fun b hb => by rw [List.mem_singleton.mp hb]; exact ⟨ha, fa⟩) ⟨rfl, vs, h', p⟩
theorem Lc.updO (L : Lc K B F H σ Γ) {k : Nat} {o o' : Own} {v : V} (hk : Γ[k]? = some (.own o)) (hv : σ[k]? = some (some v)) (keep : ∀ b u, b ∉ o.fp → H b = some u → H' b = some u) (old : ∀ b ∈ o.fp, H' b ≠ none)
    (fp : ∀ b ∈ o'.fp, b ∈ o.fp ∨ H b = none) (ok : o'.ok K F H' v) : Lc K B F H' σ (Γ.set k (.own o')) := by
  obtain ⟨_, _, _, f⟩ := slot_own L hk
  have nfp : ∀ b u, F b = some u → b ∉ o.fp := fun b u q hb => by rw [(f b hb).1] at q; cases q
  refine ⟨⟨L.ext.ff, fun b u q => keep b u (nfp b u q) (L.same _ _ q), fun b u nb q => ?_, L.ext.nwM, fun x hx hb => ?_⟩, by simp [L.len], fun q t h => ?_, L.ap.putO k fun j o2 hj h b hb => ?_⟩
  · refine keep b u (fun hb => ?_) (L.ext.hh b u nb q)
    rcases (f b hb).2 with z | z
    · rw [z] at q; cases q
    · exact nb z
  · by_cases hm : x ∈ o.fp
    · exact old x hm
    · have := L.there x hx hb
      cases q : H x with
      | none => exact absurd q this
      | some u => rw [keep x u hm q]; exact fun z => nomatch z
  · rcases get_set_slot h with ⟨e1, e2, rfl⟩ | ⟨e1, hq⟩
    · subst e1
      rw [hv]
      refine ⟨v, rfl, ok, fun b hb => ?_⟩
      rcases fp b hb with z | z
      · exact f b z
      · exact ⟨L.same.free z, L.nw z⟩
    · have old' := L.ok q t hq
      cases t with
      | no => trivial
      | val i x => exact old'
      | own o2 =>
        obtain ⟨u, eu, ok2, f2⟩ := old'
        exact ⟨u, eu, o2.stay (Same.refl F) (fun b hb w q1 => keep b w (fun hb2 => L.ap k q o o2 e1 hk hq b hb2 hb) q1) ok2, f2⟩
  · rcases fp b hb with z | z
    · exact L.ap k j o o2 hj hk h b z
    · exact L.ne_own z h
theorem Lc.updL (L : Lc K B F H σ Γ) {k : Nat} {a : Addr} {β : Type} {j : Rep β} {ys : List β} {vs' : List V} {xs' : List α} (hk : Γ[k]? = some (.lst j a ys)) (p : Paired (fun u x => i.rp K F u x) vs' xs') :
    Lc K B F (upd H a (.lst vs')) σ (Γ.set k (.lst i a xs')) := by
  obtain ⟨vs, ea, _⟩ := slot_lst L hk
  refine L.updO hk ea (fun b u hb q => ?_) (fun b hb => ?_) (fun b hb => .inl hb) ⟨rfl, vs', upd_same, p⟩
  · rw [upd_ne (fun z => hb (List.mem_singleton.mpr z))]; exact q
  · rw [List.mem_singleton.mp hb, upd_same]; exact fun z => nomatch z
end
section
variable {X : Cx} {σ : L2.St} {H : Hp}
structure WE (X : Cx) (e : Expr) (σ : L2.St) (H : Hp) (Q : VK) : Prop where
  go : ∀ pins s, Inv X pins σ H s → wpAny (model X.prog X.w) X.A (eval e X.env) (EP X pins σ Q) X.xe s
structure WT (X : Cx) (e : Expr) (σ : L2.St) (H : Hp) (Q : Bool → Hp → Prop) : Prop where
  go : ∀ pins s, Inv X pins σ H s → wpAny (model X.prog X.w) X.A (isTrue e X.env (eval e X.env)) (TP X pins σ Q) X.xe s
structure WA (X : Cx) (es : List Expr) (σ : L2.St) (H : Hp) (Q : List V → Hp → Prop) : Prop where
  go : ∀ pos pins s, Inv X pins σ H s → wpAny (model X.prog X.w) X.A (spliced (backTo pos (starEach es X.env))) (AP X pins σ Q) X.xe s
structure WP (X : Cx) (st : List Stmt) (D : Ends) (σ : L2.St) (H : Hp) : Prop where
  go : ∀ pins s, Inv X pins σ H s → wpAny (model X.prog X.w) X.A (execs st X.env) (SP X pins D) X.xe s
theorem peW {e : Expr} : PE X e (WE X e) := ⟨fun pins s _ _ _ I h => h.go pins s I⟩
theorem ptW {e : Expr} : PT X e (WT X e) := ⟨fun pins s _ _ _ I h => h.go pins s I⟩
theorem paW {es : List Expr} : PA X es (WA X es) := ⟨fun pos pins s _ _ _ I h => h.go pos pins s I⟩
theorem psW {st : List Stmt} : PSs X st (WP X st) := ⟨fun pins s _ _ _ I h => h.go pins s I⟩
theorem WE.of {e : Expr} {t : TE} {Q : VK} (p : PE X e t) (h : t σ H Q) : WE X e σ H Q := ⟨fun pins s I => p.run pins s σ H Q I h⟩
theorem WT.of {e : Expr} {t : TT} {Q : Bool → Hp → Prop} (p : PT X e t) (h : t σ H Q) : WT X e σ H Q := ⟨fun pins s I => p.run pins s σ H Q I h⟩
theorem WA.of {es : List Expr} {t : TA} {Q : List V → Hp → Prop} (p : PA X es t) (h : t σ H Q) : WA X es σ H Q := ⟨fun pos pins s I => p.run pos pins s σ H Q I h⟩
theorem WP.of {st : List Stmt} {t : TS} {D : Ends} (p : PSs X st t) (h : t D σ H) : WP X st D σ H := ⟨fun pins s I => p.run pins s σ H D I h⟩
theorem WP.cons {st : Stmt} {rest : List Stmt} {t : TS} {D : Ends} (p : PS X st t) (h : t { D with nx := fun σ' H' => WP X rest D σ' H' } σ H) : WP X (st :: rest) D σ H :=
  WP.of (pss_cons p psW) h
end
noncomputable def ROk (K : PySem.W.Frag) (N : Addr → Prop) (F' H' : Hp) (v : V) : Ret → Prop
  | .val i x => i.rp K F' v x
  | .new i xs => ∃ a vs, v = .ref a ∧ N a ∧ F' a = none ∧ H' a = some (.lst vs) ∧ Paired (fun u x => i.rp K F' u x) vs xs
  | .own P => ∃ o, P o ∧ (∀ b ∈ o.fp, N b ∧ F' b = none) ∧ o.ok K F' H' v
  | .chg i x os => i.rp K F' v x ∧ (∀ o ∈ os, o.ok K F' H' o.root ∧ ∀ b ∈ o.fp, N b ∧ F' b = none) ∧ os.Pairwise fun o1 o2 => ∀ b ∈ o1.fp, b ∉ o2.fp
noncomputable abbrev Nw (H : Hp) : Addr → Prop := fun b => H b = none
theorem ROk.imp {K : PySem.W.Frag} {N N' : Addr → Prop} {F' H' : Hp} {v : V} {r : Ret} (h : ROk K N F' H' v r) (n : ∀ b, N b → N' b) : ROk K N' F' H' v r := by
  cases r with
  | val i x => exact h
  | new i xs => obtain ⟨a, vs, e, h1, h2⟩ := h; exact ⟨a, vs, e, n a h1, h2⟩
  | own P => obtain ⟨o, p, f, ok⟩ := h; exact ⟨o, p, fun b hb => ⟨n b (f b hb).1, (f b hb).2⟩, ok⟩
  | chg i x os => obtain ⟨r, f, d⟩ := h; exact ⟨r, fun o ho => ⟨(f o ho).1, fun b hb => ⟨n b ((f o ho).2 b hb).1, ((f o ho).2 b hb).2⟩⟩, d⟩
noncomputable def EX (X : Cx) (Γ : List Slot) (e : Expr) (P : Ret → Prop) : Prop :=
  ∀ B F H σ Q, Lc X.K B F H σ Γ → (∀ r v F' H', P r → Ext F H F' H' → ROk X.K (Nw H) F' H' v r → Q v H') → WE X e σ H Q
noncomputable def EV (X : Cx) (Γ : List Slot) (e : Expr) {α : Type} [i : Rep α] (x : α) : Prop :=
  ∀ B F H σ Q, Lc X.K B F H σ Γ → (∀ v F' H', Ext F H F' H' → i.rp X.K F' v x → Q v H') → WE X e σ H Q
noncomputable def EN (X : Cx) (Γ : List Slot) (e : Expr) {α : Type} [i : Rep α] (xs : List α) : Prop :=
  ∀ B F H σ Q, Lc X.K B F H σ Γ → (∀ a vs F' H', Ext F H F' H' → H a = none → F' a = none → H' a = some (.lst vs) → Paired (fun u x => i.rp X.K F' u x) vs xs → Q (.ref a) H') → WE X e σ H Q
noncomputable def ET (X : Cx) (Γ : List Slot) (e : Expr) (b : Bool) : Prop :=
  ∀ B F H σ Q, Lc X.K B F H σ Γ → (∀ F' H', Ext F H F' H' → Q b H') → WT X e σ H Q
noncomputable def VsOk (K : PySem.W.Frag) (F : Hp) : List V → List Slot → Prop
  | [], [] => True
  | v :: vs, .val i x :: A => i.rp K F v x ∧ VsOk K F vs A
  | _, _ => False
noncomputable def EA (X : Cx) (Γ : List Slot) (es : List Expr) (A : List Slot) : Prop :=
  ∀ B F H σ Q, Lc X.K B F H σ Γ → (∀ vs F' H', Ext F H F' H' → VsOk X.K F' vs A → Q vs H') → WA X es σ H Q
theorem VsOk.mono {K : PySem.W.Frag} {F F' : Hp} (s : Same F F') : ∀ {vs : List V} {A : List Slot}, VsOk K F vs A → VsOk K F' vs A
  | [], [], _ => trivial
  | v :: vs, .val i x :: A, h => ⟨i.mono s h.1, VsOk.mono s h.2⟩
  | [], _ :: _, h => h.elim
  | _ :: _, [], h => h.elim
  | _ :: _, .no :: _, h => h.elim
  | _ :: _, .own _ :: _, h => h.elim
theorem VsOk.len {K : PySem.W.Frag} {F : Hp} : ∀ {vs : List V} {A : List Slot}, VsOk K F vs A → vs.length = A.length
  | [], [], _ => rfl
  | v :: vs, .val i x :: A, h => by rw [List.length_cons, List.length_cons, VsOk.len h.2]
  | [], _ :: _, h => h.elim
  | _ :: _, [], h => h.elim
  | _ :: _, .no :: _, h => h.elim
  | _ :: _, .own _ :: _, h => h.elim
structure Exn where
  cls : Str
  fld : Str
  why : Slot
noncomputable abbrev Spec := List Slot → (Ret → Prop) → (Exn → Prop) → Prop
noncomputable def XOk (K : PySem.W.Frag) (N : Addr → Prop) (F' H' : Hp) (u : Value) (d : Option Addr) (x : Exn) : Prop :=
  ∃ C, u = .ref C ∧ PySem.W.nsIn K mainGlobals x.cls = some (some (.ref C)) ∧
    match x.why with
    | .no => d = none
    | .val i y => ∃ dx w, d = some dx ∧ N dx ∧ F' dx = none ∧ H' dx = some (.xd [(x.fld, w)]) ∧ i.rp K F' w y
    | .own _ => False
theorem XOk.imp {K : PySem.W.Frag} {N N' : Addr → Prop} {F' H' : Hp} {u : Value} {d : Option Addr} {x : Exn} (h : XOk K N F' H' u d x) (n : ∀ a, N a → N' a) : XOk K N' F' H' u d x := by
  obtain ⟨C, e1, e2, h⟩ := h
  refine ⟨C, e1, e2, ?_⟩
  obtain ⟨cls, fld, why⟩ := x
  cases why with
  | no => exact h
  | val i y =>
    obtain ⟨dx, w, e3, e4, h⟩ := h
    exact ⟨dx, w, e3, n _ e4, h⟩
  | own o => exact h
noncomputable def Free (Γ : List Slot) (b : Addr) : Prop := ∀ (k : Nat) o, Γ[k]? = some (.own o) → b ∉ o.fp
noncomputable def XW (X : Cx) : WX := fun cls d σ H => ∀ u s', XE X (fun c d' σ' H' => c = cls ∧ d' = d ∧ σ' = σ ∧ H' = H) u s' → X.xe u s'
theorem takesW {X : Cx} : Takes X (XW X) := fun u s' ⟨a, B, sI, pins, σ, H, cls, d, e, I, nb, up, sky, na, os, ag, h⟩ => h u s' ⟨a, B, sI, pins, σ, H, cls, d, e, I, nb, up, sky, na, os, ag, rfl, rfl, rfl, rfl⟩
theorem XW.of {X : Cx} {W : WX} (tk : Takes X W) {cls : Value} {d : Option Addr} {σ : L2.St} {H : Hp} (h : W cls d σ H) : XW X cls d σ H := fun u s' ⟨a, B, sI, pins, σ', H', cls', d', e, I, nb, up, sky, na, os, ag, e1, e2, e3, e4⟩ => by
  subst e1 e2 e3 e4
  exact tk u s' ⟨a, B, sI, pins, σ', H', cls', d', e, I, nb, up, sky, na, os, ag, h⟩
noncomputable def VsOkO (K : PySem.W.Frag) (F H : Hp) : List V → List Slot → Prop
  | [], [] => True
  | v :: vs, .val i x :: A => i.rp K F v x ∧ VsOkO K F H vs A
  | v :: vs, .own o :: A => o.ok K F H v ∧ (∀ b ∈ o.fp, F b = none) ∧ VsOkO K F H vs A
  | _, _ => False
noncomputable def MA (A : List Slot) : Addr → Prop := fun b => ∃ o, Slot.own o ∈ A ∧ b ∈ o.fp
theorem VsOkO.len {K : PySem.W.Frag} {F H : Hp} : ∀ {vs : List V} {A : List Slot}, VsOkO K F H vs A → vs.length = A.length
  | [], [], _ => rfl
  | v :: vs, .val i x :: A, h => by rw [List.length_cons, List.length_cons, VsOkO.len h.2]
  | v :: vs, .own o :: A, h => by rw [List.length_cons, List.length_cons, VsOkO.len h.2.2]
  | [], _ :: _, h => h.elim
  | _ :: _, [], h => h.elim
  | _ :: _, .no :: _, h => h.elim
theorem VsOk.toO {K : PySem.W.Frag} {F H : Hp} : ∀ {vs : List V} {A : List Slot}, VsOk K F vs A → VsOkO K F H vs A
  | [], [], _ => trivial
  | v :: vs, .val i x :: A, h => ⟨h.1, VsOk.toO h.2⟩
  | [], _ :: _, h => h.elim
  | _ :: _, [], h => h.elim
  | _ :: _, .no :: _, h => h.elim
  | _ :: _, .own _ :: _, h => h.elim
theorem VsOk.no {K : PySem.W.Frag} {F : Hp} : ∀ {vs : List V} {A : List Slot}, VsOk K F vs A → ∀ o, Slot.own o ∉ A
  | [], [], _, _, h => by cases h
  | v :: vs, .val i x :: A, h, o, m => by
    rcases List.mem_cons.mp m with z | z
    · cases z
    · exact VsOk.no h.2 o z
  | [], _ :: _, h, _, _ => h.elim
  | _ :: _, [], h, _, _ => h.elim
  | _ :: _, .no :: _, h, _, _ => h.elim
  | _ :: _, .own _ :: _, h, _, _ => h.elim
theorem VsOk.apart {K : PySem.W.Frag} {F : Hp} {vs : List V} {A : List Slot} (h : VsOk K F vs A) : Apart A := fun i j o1 o2 _ h1 _ => absurd (List.mem_of_getElem? h1) (h.no o1)
theorem VsOk.ma {K : PySem.W.Frag} {F : Hp} {vs : List V} {A : List Slot} (h : VsOk K F vs A) {b : Addr} (m : MA A b) : False := by
  obtain ⟨o, h1, _⟩ := m
  exact h.no o h1
theorem Ext.thenM {M : Addr → Prop} {F H F1 H1 F2 H2 : Hp} (a : Ext F H F1 H1) (b : ExtM M F1 H1 F2 H2) (n : ∀ x, M x → H x = none) : Ext F H F2 H2 :=
  ⟨a.ff.trans b.ff, b.fh, fun x o _ h => b.hh x o (fun m => by rw [n x m] at h; cases h) (a.hs x o h), fun x _ h1 h2 => b.nwM x (fun m => h2 (n x m)) (a.nw x h1 h2) (by
    cases q : H x with
    | none => exact absurd q h2
    | some o => rw [a.hs x o q]; exact fun z => nomatch z), fun _ z => z.elim⟩
noncomputable def spOf (K : PySem.W.Frag) (S : Spec) : Sp := fun vs H Q E => ∃ F A, Same F H ∧ VsOkO K F H vs A ∧ Apart A ∧
  S A (fun r => ∀ v F' H', ExtM (MA A) F H F' H' → ROk K (Bs.nw ⟨F, H, MA A⟩) F' H' v r → Q v H') (fun x => ∀ u d F' H', ExtM (MA A) F H F' H' → XOk K (Bs.nw ⟨F, H, MA A⟩) F' H' u d x → E u d H')
structure Has (P : Program) (w : World) (K : PySem.W.Frag) (mg : Str → Option Value) (base : Heap) (k : Nat) (n : Str) (ps : List Str) (S : Spec) : Prop where
  ex : ∃ f fd, mg n = some (.ref f) ∧ PySem.W.keepIn K (.ref f) = true ∧ Binds K fd ps [] ∧ FnOk P w K mg base (L2.CX P w) k f fd ps (spOf K S)
structure SE where
  nx : List Slot → Prop
  rt : Ret → Prop
  bk : List Slot → Prop
  ct : List Slot → Prop
  ex : List Slot → Exn → Prop
noncomputable abbrev fin (Q : Ret → Prop) : SE := ⟨fun _ => Q (.val repUnit ()), Q, fun _ => False, fun _ => False, fun _ _ => False⟩
noncomputable abbrev finX (Q : Ret → Prop) (R : Exn → Prop) : SE := ⟨fun _ => Q (.val repUnit ()), Q, fun _ => False, fun _ => False, fun _ => R⟩
structure ED (X : Cx) (B : Bs) (F0 : Hp) (E : SE) (D : Ends) : Prop where
  nx : ∀ F H σ Γ, Same F0 F → E.nx Γ → Lc X.K B F H σ Γ → D.nx σ H
  rt : ∀ r v F H, E.rt r → ExtM B.M B.F B.H F H → ROk X.K B.nw F H v r → D.rt v H
  bk : ∀ F H σ Γ, Same F0 F → E.bk Γ → Lc X.K B F H σ Γ → D.bk σ H
  ct : ∀ F H σ Γ, Same F0 F → E.ct Γ → Lc X.K B F H σ Γ → D.ct σ H
  ex : ∀ F H σ Γ x u d, Same F0 F → E.ex Γ x → Lc X.K B F H σ Γ → XOk X.K (fun b => B.nw b ∧ Free Γ b) F H u d x → XW X u d σ H
theorem ED.weak {X : Cx} {B : Bs} {F0 F1 : Hp} {E : SE} {D : Ends} (h : ED X B F0 E D) (s : Same F0 F1) : ED X B F1 E D :=
  ⟨fun F H σ Γ q => h.nx F H σ Γ (s.trans q), h.rt, fun F H σ Γ q => h.bk F H σ Γ (s.trans q), fun F H σ Γ q => h.ct F H σ Γ (s.trans q), fun F H σ Γ x u d q => h.ex F H σ Γ x u d (s.trans q)⟩
theorem ED.exS {X : Cx} {B : Bs} {F0 F H F' H' : Hp} {E : SE} {D : Ends} {Γ : List Slot} {σ : L2.St} {x : Exn} {u : Value} {d : Option Addr} (ed : ED X B F0 E D) (s : Same F0 F) (hE : E.ex Γ x) (L : Lc X.K B F H σ Γ) (e : Ext F H F' H') (ok : XOk X.K (Nw H) F' H' u d x) : XW X u d σ H' :=
  ed.ex F' H' σ Γ x u d (s.trans e.ff) hE (L.step e) (ok.imp fun b h => ⟨L.nw h, fun k o hk => L.ne_own h hk⟩)
noncomputable def ST (X : Cx) (sts : List Stmt) (Γ : List Slot) (E : SE) : Prop :=
  ∀ B F H σ D, Lc X.K B F H σ Γ → ED X B F E D → WP X sts D σ H
noncomputable def noStar : Expr → Bool
  | .Starred .. => false
  | _ => true
theorem star_of {e : Expr} {es : List Expr} {env : Env} (h : noStar e = true) : starEach (e :: es) env = (false, eval e env) :: starEach es env := by
  cases e <;> first | rfl | cases h
theorem pl_of {pos : Pos} {env : Env} : ∀ {es : List Expr}, es.all noStar = true → (backTo pos (starEach es env)).any (·.1) = false
  | [], _ => rfl
  | e :: es, h => by
    rw [List.all_cons, Bool.and_eq_true] at h
    rw [star_of h.1]
    exact pl_of h.2
noncomputable def visB (sc : Scope) (x : Str) : Bool := match sc.names.lookup x with
  | some .local => true
  | some .cell => true
  | some .free => true
  | _ => false
theorem vis_of {sc : Scope} {x : Str} (h : visB sc x = true) : L2.Vis sc x := by
  unfold visB at h
  split at h
  · exact Or.inl (by assumption)
  · exact Or.inr (Or.inl (by assumption))
  · exact Or.inr (Or.inr (by assumption))
  · cases h
noncomputable def locB (sc : Scope) (x : Str) : Bool := match sc.names.lookup x with
  | some .local => true
  | some .cell => true
  | _ => false
theorem loc_of {sc : Scope} {x : Str} (h : locB sc x = true) : L2.Loc sc x := by
  unfold locB at h
  split at h
  · exact Or.inl (by assumption)
  · exact Or.inr (by assumption)
  · cases h
def aSeq (x : Lean.Syntax) : Lean.Syntax := .node .none `Lean.Parser.Tactic.tacticSeq #[.node .none `Lean.Parser.Tactic.tacticSeq1Indented #[.node .none `null #[x]]]
def aEx (n : Lean.Name) : Lean.Syntax := aSeq (.node .none `Lean.Parser.Tactic.exact #[.atom .none "exact", .node .none `Lean.Parser.Term.app #[.ident .none n.toString.toRawSubstring n [.decl n []], .node .none `null #[.ident .none "rfl".toRawSubstring `rfl [.decl `rfl []]]]])
def aStar : Lean.Syntax := aEx `Tw.star_of
def aPl : Lean.Syntax := aEx `Tw.pl_of
def aVis : Lean.Syntax := aEx `Tw.vis_of
def aLoc : Lean.Syntax := aEx `Tw.loc_of
def aHole : Lean.Syntax := .node .none `Lean.Parser.Term.hole #[.atom .none "_"]
def aIn (n : Nat) : Lean.Syntax := .node .none `Lean.Parser.Tactic.tacticSeq #[.node .none `Lean.Parser.Tactic.tacticSeq1Indented #[.node .none `null #[.node .none `Lean.Parser.Tactic.intro #[.atom .none "intro", .node .none `null (Array.replicate n aHole)], .atom .none ";", .node .none `Lean.Parser.Tactic.tacticRfl #[.atom .none "rfl"]]]]
def aIR1 : Lean.Syntax := aIn 1
def aDot (n : Lean.Name) (s : String) : Lean.Syntax := .node .none `group #[.atom .none "|", aSeq (.node .none `Lean.Parser.Tactic.exact #[.atom .none "exact", .node .none `Lean.Parser.Term.app #[.node .none `Lean.Parser.Term.dotIdent #[.atom .none ".", .ident .none s.toRawSubstring n []], .node .none `null #[.ident .none "rfl".toRawSubstring `rfl [.decl `rfl []]]]])]
def aNle : Lean.Syntax := aEx `Nat.le_of_ble_eq_true
def aAlt (x : Lean.Syntax) : Lean.Syntax := .node .none `group #[.atom .none "|", x]
def aPass : Lean.Syntax := aSeq (.node .none `Lean.Parser.Tactic.first #[.atom .none "first", .node .none `null #[aAlt (aSeq (.node .none `Lean.Parser.Tactic.exact #[.atom .none "exact", .ident .none "PySem.PassesOwn.never".toRawSubstring `PySem.PassesOwn.never [.decl `PySem.PassesOwn.never []]])), aAlt (aEx `L2.passes_of), aAlt (aSeq (.node .none `Lean.Parser.Tactic.assumption #[.atom .none "assumption"]))]])
def aFn : Lean.Syntax := aSeq (.node .none `Lean.Parser.Tactic.first #[.atom .none "first", .node .none `null #[aDot `inl "inl", aDot `inr "inr"]])
def aIR2 : Lean.Syntax := aIn 2
def aDec : Lean.Syntax := aSeq (.node .none `Lean.Parser.Tactic.decide #[.atom .none "decide", .node .none `Lean.Parser.Tactic.optConfig #[.node .none `null #[]]])
end Tw
namespace Tw
open PySem PySem.Spec PyProof.Rows L2 TL
noncomputable abbrev tx (s : String) : Tx := s.toList.map Char.toNat
theorem sl_small {n : Nat} (h : n ≤ 1000) : n ≤ sizeLine := Nat.le_trans h (by decide)
theorem sx_tx (s : String) : Str.ofString s = sx (tx s) := ext_tl (by rw [tl_ofString]; rfl)
section
variable {X : Cx} {Γ : List Slot} {α β γ : Type} {i : Rep α} {j : Rep β} {l : Rep γ} {pos p : Pos} {e a b c : Expr} {es : List Expr}
theorem ev_of_ex {x : α} (h : EX X Γ e fun r => r = .val i x) : EV X Γ e x := fun B F H σ Q L q =>
  h B F H σ Q L fun r v F' H' er ex ok => by subst er; exact q v F' H' ex ok
theorem en_of_ex {xs : List α} (h : EX X Γ e fun r => r = .new i xs) : EN X Γ e xs := fun B F H σ Q L q =>
  h B F H σ Q L fun r v F' H' er ex ok => by
    subst er
    obtain ⟨a, vs, rfl, h1, h2, h3, h4⟩ := ok
    exact q a vs F' H' ex h1 h2 h3 h4
theorem ev_of_en {xs : List α} (h : EN X Γ e xs) : EV X Γ e xs := fun B F H σ Q L q =>
  h B F H σ Q L fun a vs F' H' ex ha fa h' p => by
    have sm : Same F' (upd F' a (.lst vs)) := fun b u e => by rw [upd_ne (ne_of_none e fa)]; exact e
    refine q (.ref a) (upd F' a (.lst vs)) H' ⟨ex.ff.trans sm, fun b u e => ?_, ex.hh, fun b _ h1 h2 => ?_, fun _ z => z.elim⟩ ⟨a, vs, rfl, upd_same, Paired.mapP p fun _ _ q => i.mono sm q⟩
    · by_cases hb : b = a
      · subst hb; rw [upd_same] at e; rw [← e]; exact h'
      · rw [upd_ne hb] at e; exact ex.fh _ _ e
    · rw [upd_ne (fun z => by subst z; exact h2 ha)]; exact ex.nw b h1 h2
theorem ex_of_ev {x : α} {P : Ret → Prop} (h : EV X Γ e x) (hp : P (.val i x)) : EX X Γ e P := fun B F H σ Q L q =>
  h B F H σ Q L fun v F' H' ex r => q (.val i x) v F' H' hp ex r
theorem ex_of_en {xs : List α} {P : Ret → Prop} (h : EN X Γ e xs) (hp : P (.new i xs)) : EX X Γ e P := fun B F H σ Q L q =>
  h B F H σ Q L fun a vs F' H' ex ha fa h' p => q (.new i xs) (.ref a) F' H' hp ex ⟨a, vs, rfl, ha, fa, h', p⟩
theorem ev_eq {x y : α} (h : EV X Γ e x) (q : x = y) : EV X Γ e y := q ▸ h
theorem en_eq {x y : List α} (h : EN X Γ e x) (q : x = y) : EN X Γ e y := q ▸ h
theorem et_eq {x y : Bool} (h : ET X Γ e x) (q : x = y) : ET X Γ e y := q ▸ h
theorem et_val {k : Bool} (h : EV X Γ e k) (he : autoParam (∀ whole, isTrue e X.env whole = (do let v ← whole; standAt e.pos; holding [v] (truthy v))) Tw.aIR1) : ET X Γ e k := fun B F H σ Q L q =>
  WT.of (pt_val peW he) (h B F H σ _ L fun v F' H' ex r => ⟨k, r, q F' H' ex⟩)
theorem ev_var (k : Nat) {n : Str} {x : α} (hN : autoParam (X.N[k]? = some n) aRfl) (hv : autoParam (Vis X.env.scope n) aVis) (hd : autoParam ((n == ("__debug__" : Str)) = false) aDec)
    (hcd : autoParam ((n == ("__classdict__" : Str)) = false) aDec) (hg : autoParam (Γ[k]? = some (.val i x)) aRfl) : EV X Γ (.Name n pos) x := fun B F H σ Q L q => by
  obtain ⟨v, e1, r⟩ := slot_val L hg
  exact WE.of (pe_var hN hv hd hcd) ⟨v, e1, q v F H (Ext.refl L.same) r⟩
theorem ev_int {z : Int} {k} : EV X Γ (.Constant (.int z) k pos) z := fun B F H σ Q L q => WE.of pe_int (q _ F H (Ext.refl L.same) rfl)
theorem ev_bl {z : Bool} {k} : EV X Γ (.Constant (.bool z) k pos) z := fun B F H σ Q L q => WE.of pe_bl (q _ F H (Ext.refl L.same) rfl)
theorem ev_non {k} : EV X Γ (.Constant .none k pos) () := fun B F H σ Q L q => WE.of pe_non (q _ F H (Ext.refl L.same) rfl)
theorem ev_nonO {k} : EV X Γ (.Constant .none k pos) (none : Option α) := fun B F H σ Q L q => WE.of pe_non (q _ F H (Ext.refl L.same) rfl)
theorem ev_some {x : α} (h : EV X Γ e x) : EV X Γ e (some x) := fun B F H σ Q L q => h B F H σ Q L fun v F' H' ex r => q v F' H' ex r
theorem ev_str (s : String) {k} : EV X Γ (.Constant (.str (Str.ofString s)) k pos) (tx s) := fun B F H σ Q L q => WE.of pe_str (q _ F H (Ext.refl L.same) (congrArg V.str (sx_tx s)))
theorem ev_gint {n : Str} {z : Int} {t : Tok} (hm : X.mg n = some (.int z t)) (hg : autoParam (Gl X n) aRfl) (hd : autoParam ((n == ("__debug__" : Str)) = false) aDec) : EV X Γ (.Name n pos) z := fun B F H σ Q L q =>
  WE.of (pe_glob (v := .int z) hg hm ⟨t, rfl⟩ hd) (q _ F H (Ext.refl L.same) rfl)
theorem ev_gstr {n : Str} (s : String) {t : Tok} (hm : X.mg n = some (.str (Str.ofString s) t)) (hg : autoParam (Gl X n) aRfl) (hd : autoParam ((n == ("__debug__" : Str)) = false) aDec) : EV X Γ (.Name n pos) (tx s) := fun B F H σ Q L q =>
  WE.of (pe_glob (v := .str (Str.ofString s)) hg hm ⟨t, rfl⟩ hd) (q _ F H (Ext.refl L.same) (congrArg V.str (sx_tx s)))
noncomputable def rW (X : Cx) (f : Value → Value → Sem Value) : R2 := fun x y H Q => ∀ pins s σ v u, Inv X pins σ H s → RelV x v → RelV y u → wpAny (model X.prog X.w) X.A (f v u) (EP X pins σ Q) X.xe s
theorem opW {f : Value → Value → Sem Value} : OpR X f (rW X f) := fun pins s σ H x y v u Q I r1 r2 h => h pins s σ v u I r1 r2
noncomputable def OB (X : Cx) (f : Value → Value → Sem Value) {α β γ : Type} [i : Rep α] [j : Rep β] [l : Rep γ] (x : α) (y : β) (z : γ) : Prop :=
  ∀ F H v u Q, Same F H → i.rp X.K F v x → j.rp X.K F u y → (∀ w F' H', Ext F H F' H' → l.rp X.K F' w z → Q w H') → rW X f v u H Q
theorem ob_flat {f : Value → Value → Sem Value} {x : α} {y : β} {z : γ} {r : R2} (o : OpR X f r)
    (h : ∀ F H v u Q, Same F H → i.rp X.K F v x → j.rp X.K F u y → (∀ w, l.rp X.K F w z → Q w H) → r v u H Q) : OB X f x y z :=
  fun F H v u Q s r1 r2 q pins s' σ v' u' I rv ru => o pins s' σ H v u v' u' Q I rv ru (h F H v u Q s r1 r2 fun w hw => q w F H (Ext.refl s) hw)
theorem ev_bin {op : Operator} {x : α} {y : β} {z : γ} (o : OB X (binaryOp op) x y z) (ha : EV X Γ a x) (hb : EV X Γ b y) : EV X Γ (.BinOp a op b pos) z := fun B F H σ Q L q =>
  WE.of (pe_op opW peW peW) (ha B F H σ _ L fun v F1 H1 e1 r1 => hb B F1 H1 σ _ (L.step e1) fun u F2 H2 e2 r2 =>
    o F2 H2 v u Q (L.step (e1.trans e2)).same (i.mono e2.ff r1) r2 fun w F3 H3 e3 r3 => q w F3 H3 ((e1.trans e2).trans e3) r3)
theorem ev_cmp {op : CmpOp} {x : α} {y : β} {z : Bool} (o : OB X (compareOp op) x y z) (ha : EV X Γ a x) (hb : EV X Γ b y) (hm : behindInMarks op b = false := by first | exact nomark _ | rfl) : EV X Γ (.Compare a [op] [b] pos) z := fun B F H σ Q L q =>
  WE.of (pe_cmpR opW peW peW hm) (ha B F H σ _ L fun v F1 H1 e1 r1 => hb B F1 H1 σ _ (L.step e1) fun u F2 H2 e2 r2 =>
    o F2 H2 v u Q (L.step (e1.trans e2)).same (i.mono e2.ff r1) r2 fun w F3 H3 e3 r3 => q w F3 H3 ((e1.trans e2).trans e3) r3)
theorem et_cmp {op : CmpOp} {x : α} {y : β} {z : Bool} (o : OB X (compareOp op) x y z) (ha : EV X Γ a x) (hb : EV X Γ b y) (hm : behindInMarks op b = false := by first | exact nomark _ | rfl) : ET X Γ (.Compare a [op] [b] pos) z := fun B F H σ Q L q =>
  WT.of (pt_cmpR opW peW peW hm) (ha B F H σ _ L fun v F1 H1 e1 r1 => hb B F1 H1 σ _ (L.step e1) fun u F2 H2 e2 r2 =>
    o F2 H2 v u _ (L.step (e1.trans e2)).same (i.mono e2.ff r1) r2 fun w F3 H3 e3 r3 => ⟨z, r3, q F3 H3 ((e1.trans e2).trans e3)⟩)
theorem ev_chain {op op' : CmpOp} {x : α} {y : β} {w : γ} {k k' : Bool} (o : OB X (compareOp op) x y k) (o' : k = true → OB X (compareOp op') y w k') (ha : EV X Γ a x) (hb : EV X Γ b y) (hc : k = true → EV X Γ c w)
    (hm : lastMarks [op, op'] [b, c] = false := by with_unfolding_all rfl) : EV X Γ (.Compare a [op, op'] [b, c] pos) (k && k') := fun B F H σ Q L q =>
  WE.of (pe_chain opW opW peW peW peW hm) (ha B F H σ _ L fun v F1 H1 e1 r1 => hb B F1 H1 σ _ (L.step e1) fun u F2 H2 e2 r2 =>
    o F2 H2 v u _ (L.step (e1.trans e2)).same (i.mono e2.ff r1) r2 fun z F3 H3 e3 r3 => ⟨k, r3, by
      have e123 := (e1.trans e2).trans e3
      cases k with
      | false => exact q _ F3 H3 e123 rfl
      | true => exact hc rfl B F3 H3 σ _ (L.step e123) fun t F4 H4 e4 r4 => o' rfl F4 H4 u t Q (L.step (e123.trans e4)).same (j.mono (e3.trans e4).ff r2) r4 fun w F5 H5 e5 r5 => q w F5 H5 ((e123.trans e4).trans e5) (by rw [Bool.true_and]; exact r5)⟩)
theorem ob_I {f : Value → Value → Sem Value} {C : Int → Int → Prop} {g : Int → Int → Int} {x y : Int} (o : OpR X f (rI C fun i j => .int (g i j))) (h : C x y) : OB X f x y (g x y) :=
  ob_flat o fun F H v u Q s r1 r2 q => ⟨x, y, r1, r2, h, q _ rfl⟩
theorem ob_I0 {f : Value → Value → Sem Value} {g : Int → Int → Int} {x y : Int} (o : OpR X f (rI0 fun i j => .int (g i j))) : OB X f x y (g x y) :=
  ob_flat o fun F H v u Q s r1 r2 q => ⟨x, y, r1, r2, q _ rfl⟩
theorem ob_B0 {f : Value → Value → Sem Value} {g : Int → Int → Bool} {x y : Int} (o : OpR X f (rI0 fun i j => .bl (g i j))) : OB X f x y (g x y) :=
  ob_flat o fun F H v u Q s r1 r2 q => ⟨x, y, r1, r2, q _ rfl⟩
theorem o_add {x y : Int} : OB X (binaryOp .Add) x y (x + y) := ob_I0 op_add
theorem o_sub {x y : Int} : OB X (binaryOp .Sub) x y (x - y) := ob_I0 op_sub
theorem o_mul {x y : Int} (h : CMul x y) : OB X (binaryOp .Mult) x y (x * y) := ob_I op_mul h
theorem o_mod {x y : Int} (h : 0 < y) : OB X (binaryOp .Mod) x y (x % y) := ob_I op_mod h
theorem o_div {x y : Int} (h : CDivW x y) : OB X (binaryOp .FloorDiv) x y (x / y) := ob_I op_fdivW h
theorem o_lt {x y : Int} : OB X (compareOp .Lt) x y (decide (x < y)) := ob_B0 op_lt
theorem o_le {x y : Int} : OB X (compareOp .LtE) x y (decide (x ≤ y)) := ob_B0 op_le
theorem o_gt {x y : Int} : OB X (compareOp .Gt) x y (decide (y < x)) := ob_B0 op_gt
theorem o_ge {x y : Int} : OB X (compareOp .GtE) x y (decide (y ≤ x)) := ob_B0 op_ge
theorem o_eq {x y : Int} : OB X (compareOp .Eq) x y (decide (x = y)) := ob_flat op_eq fun F H v u Q s r1 r2 q => by
  obtain rfl : v = .int x := r1
  obtain rfl : u = .int y := r2
  exact ⟨rfl, q _ (show V.bl _ = V.bl _ by rw [dec_int, Bool.beq_eq_decide_eq])⟩
theorem o_ne {x y : Int} : OB X (compareOp .NotEq) x y (!decide (x = y)) := ob_flat op_ne fun F H v u Q s r1 r2 q => by
  obtain rfl : v = .int x := r1
  obtain rfl : u = .int y := r2
  exact ⟨rfl, q _ (show V.bl _ = V.bl _ by rw [dec_int, Bool.beq_eq_decide_eq])⟩
theorem dec_sx {x y : Tx} : decide (V.str (sx x) = V.str (sx y)) = decide (x = y) := by
  by_cases h : x = y
  · subst h; rw [decide_eq_true rfl, decide_eq_true rfl]
  · rw [decide_eq_false h, decide_eq_false fun z => h (sx_inj (V.str.inj z))]
theorem o_eqS {x y : Tx} : OB X (compareOp .Eq) x y (decide (x = y)) := ob_flat op_eq fun F H v u Q s r1 r2 q => by
  obtain rfl : v = .str (sx x) := r1
  obtain rfl : u = .str (sx y) := r2
  exact ⟨rfl, q _ (show V.bl _ = V.bl _ by rw [dec_sx])⟩
theorem o_addS {x y : Tx} (h : x.length + y.length ≤ sizeLine) : OB X (binaryOp .Add) x y (x ++ y) := ob_flat op_add_str fun F H v u Q s r1 r2 q => by
  obtain rfl : v = .str (sx x) := r1
  obtain rfl : u = .str (sx y) := r2
  exact ⟨_, _, rfl, rfl, by rw [sx_len, sx_len]; exact h, q _ (by rw [sx_app]; rfl)⟩
theorem et_not {k : Bool} (h : ET X Γ a k) : ET X Γ (.UnaryOp .Not a pos) (!k) := fun B F H σ Q L q =>
  WT.of (pt_not ptW) (h B F H σ _ L fun F1 H1 e1 => q F1 H1 e1)
structure WW (X : Cx) (e : Expr) (σ : L2.St) (H : Hp) (Q : Bool → Hp → Prop) : Prop where
  go : ∀ whole pins s, Inv X pins σ H s → wpAny (model X.prog X.w) X.A (isTrue e X.env whole) (TP X pins σ Q) X.xe s
theorem pwW : PW X e (WW X e) := ⟨fun whole pins s _ _ _ I h => h.go whole pins s I⟩
noncomputable def EW (X : Cx) (Γ : List Slot) (e : Expr) (k : Bool) : Prop := ∀ B F H σ Q, Lc X.K B F H σ Γ → (∀ F' H', Ext F H F' H' → Q k H') → WW X e σ H Q
theorem WW.of {t : TT} {σ : L2.St} {H : Hp} {Q : Bool → Hp → Prop} (p : PW X e t) (h : t σ H Q) : WW X e σ H Q := ⟨fun whole pins s I => p.run whole pins s σ H Q I h⟩
theorem et_w {k : Bool} (h : EW X Γ e k) : ET X Γ e k := fun B F H σ Q L q => WT.of (PW.pt pwW) (h B F H σ Q L q)
theorem ew_and1 {k : Bool} (h : ET X Γ a k) : EW X Γ (.BoolOp .And [a] pos) k := fun B F H σ Q L q => WW.of (pw_and1 ptW) (h B F H σ Q L q)
theorem ew_or1 {k : Bool} (h : ET X Γ a k) : EW X Γ (.BoolOp .Or [a] pos) k := fun B F H σ Q L q => WW.of (pw_or1 ptW) (h B F H σ Q L q)
theorem ew_and {k m : Bool} (ha : ET X Γ a k) (hb : k = true → EW X Γ (.BoolOp .And (b :: es) pos) m) : EW X Γ (.BoolOp .And (a :: b :: es) pos) (k && m) := fun B F H σ Q L q =>
  WW.of (pw_and ptW pwW) (ha B F H σ _ L fun F1 H1 e1 => by
    cases k with
    | true => exact hb rfl B F1 H1 σ Q (L.step e1) fun F2 H2 e2 => by rw [Bool.true_and] at q; exact q F2 H2 (e1.trans e2)
    | false => exact q F1 H1 e1)
theorem ew_or {k m : Bool} (ha : ET X Γ a k) (hb : k = false → EW X Γ (.BoolOp .Or (b :: es) pos) m) : EW X Γ (.BoolOp .Or (a :: b :: es) pos) (k || m) := fun B F H σ Q L q =>
  WW.of (pw_or ptW pwW) (ha B F H σ _ L fun F1 H1 e1 => by
    cases k with
    | false => exact hb rfl B F1 H1 σ Q (L.step e1) fun F2 H2 e2 => by rw [Bool.false_or] at q; exact q F2 H2 (e1.trans e2)
    | true => exact q F1 H1 e1)
theorem et_and {k m : Bool} (ha : ET X Γ a k) (hb : k = true → ET X Γ b m) : ET X Γ (.BoolOp .And [a, b] pos) (k && m) := et_w (ew_and ha fun h => ew_and1 (hb h))
theorem et_or {k m : Bool} (ha : ET X Γ a k) (hb : k = false → ET X Γ b m) : ET X Γ (.BoolOp .Or [a, b] pos) (k || m) := et_w (ew_or ha fun h => ew_or1 (hb h))
theorem et_and3 {k m n : Bool} (ha : ET X Γ a k) (hb : k = true → ET X Γ b m) (hc : k = true → m = true → ET X Γ c n) : ET X Γ (.BoolOp .And [a, b, c] pos) (k && (m && n)) := et_w (ew_and ha fun h => ew_and (hb h) fun h2 => ew_and1 (hc h h2))
theorem et_or3 {k m n : Bool} (ha : ET X Γ a k) (hb : k = false → ET X Γ b m) (hc : k = false → m = false → ET X Γ c n) : ET X Γ (.BoolOp .Or [a, b, c] pos) (k || (m || n)) := et_w (ew_or ha fun h => ew_or (hb h) fun h2 => ew_or1 (hc h h2))
theorem ev_one {op} {x : α} (h : EV X Γ a x) : EV X Γ (.BoolOp op [a] pos) x := fun B F H σ Q L q => WE.of (pe_one peW) (h B F H σ Q L q)
theorem ev_and {k m : Bool} (ha : EV X Γ a k) (hb : k = true → EV X Γ (.BoolOp .And (b :: es) pos) m) : EV X Γ (.BoolOp .And (a :: b :: es) pos) (k && m) := fun B F H σ Q L q =>
  WE.of (pe_and peW peW) (ha B F H σ _ L fun v F1 H1 e1 r1 => ⟨k, r1, by
    cases k with
    | true => exact hb rfl B F1 H1 σ Q (L.step e1) fun v F2 H2 e2 r2 => by rw [Bool.true_and] at q; exact q v F2 H2 (e1.trans e2) r2
    | false => exact q _ F1 H1 e1 rfl⟩)
theorem ev_and2 {k m : Bool} (ha : EV X Γ a k) (hb : k = true → EV X Γ b m) : EV X Γ (.BoolOp .And [a, b] pos) (k && m) := ev_and ha fun h => ev_one (hb h)
theorem ev_ifExp {k : Bool} {x y : α} (hc : ET X Γ c k) (ha : k = true → EV X Γ a x) (hb : k = false → EV X Γ b y) : EV X Γ (.IfExp c a b pos) (if k then x else y) := fun B F H σ Q L q =>
  WE.of (pe_ifExp ptW peW peW) (hc B F H σ _ L fun F1 H1 e1 => by
    cases k with
    | true => exact ha rfl B F1 H1 σ Q (L.step e1) fun v F2 H2 e2 r2 => q v F2 H2 (e1.trans e2) r2
    | false => exact hb rfl B F1 H1 σ Q (L.step e1) fun v F2 H2 e2 r2 => q v F2 H2 (e1.trans e2) r2)
theorem ea_nil : EA X Γ [] [] := fun B F H σ Q L q => WA.of pa_nil (q [] F H (Ext.refl L.same) trivial)
theorem ea_cons {x : α} {A : List Slot} (h : EV X Γ e x) (hr : EA X Γ es A) (hs : autoParam (starEach (e :: es) X.env = (false, eval e X.env) :: starEach es X.env) aStar) : EA X Γ (e :: es) (.val i x :: A) := fun B F H σ Q L q =>
  WA.of (pa_cons peW paW hs) (h B F H σ _ L fun v F1 H1 e1 r1 => hr B F1 H1 σ _ (L.step e1) fun vs F2 H2 e2 r2 => q (v :: vs) F2 H2 (e1.trans e2) ⟨i.mono e2.ff r1, r2⟩)
noncomputable def EAs (X : Cx) (Γ : List Slot) (es : List Expr) {α : Type} [i : Rep α] (xs : List α) : Prop :=
  ∀ B F H σ Q, Lc X.K B F H σ Γ → (∀ vs F' H', Ext F H F' H' → Paired (fun u x => i.rp X.K F' u x) vs xs → Q vs H') → WA X es σ H Q
theorem es_nil : EAs X Γ [] ([] : List α) := fun B F H σ Q L q => WA.of pa_nil (q [] F H (Ext.refl L.same) .nil)
theorem es_cons {x : α} {xs : List α} (h : EV X Γ e x) (hr : EAs X Γ es xs) (hs : autoParam (starEach (e :: es) X.env = (false, eval e X.env) :: starEach es X.env) aStar) : EAs X Γ (e :: es) (x :: xs) := fun B F H σ Q L q =>
  WA.of (pa_cons peW paW hs) (h B F H σ _ L fun v F1 H1 e1 r1 => hr B F1 H1 σ _ (L.step e1) fun vs F2 H2 e2 r2 => q (v :: vs) F2 H2 (e1.trans e2) (.cons (i.mono e2.ff r1) r2))
theorem en_lst {xs : List α} (h : EAs X Γ es xs) (hz : xs.length ≤ sizeLine := by exact sl_small (by simp)) : EN X Γ (.List es pos) xs := fun B F H σ Q L q =>
  WE.of (pe_lst paW) (h B F H σ _ L fun vs F1 H1 e1 r1 => ⟨by rw [Paired.length r1]; exact hz, fun p hp => by
    have s1 := (L.step e1).same
    have ea := Ext.apart (o := .lst vs) s1 hp
    exact q p vs F1 _ (e1.trans ea) (e1.hs.free hp) (s1.free hp) upd_same r1⟩)
theorem ev_tupH {x1} {xs : List α} (h : EAs X Γ es xs) (hz : xs.length ≤ sizeLine := by exact sl_small (by simp)) : EV X Γ (.Tuple es x1 pos) (Tup.mk xs) := fun B F H σ Q L q =>
  WE.of (pe_tup paW) (h B F H σ _ L fun vs F1 H1 e1 r1 => ⟨by rw [Paired.length r1]; exact hz, fun p hp => by
    have s1 := (L.step e1).same
    have ea := Ext.new (o := .tup vs) s1 hp
    exact q (.ref p) _ _ (e1.trans ea) ⟨p, vs, rfl, upd_same, Paired.mapP r1 fun _ _ z => i.mono ea.ff z⟩⟩)
theorem ev_pair {x1} {x : α} {y : β} (ha : EV X Γ a x) (hb : EV X Γ b y) (hs : autoParam (starEach [a, b] X.env = (false, eval a X.env) :: starEach [b] X.env) aStar) (hs2 : autoParam (starEach [b] X.env = (false, eval b X.env) :: starEach [] X.env) aStar) : EV X Γ (.Tuple [a, b] x1 pos) (x, y) := fun B F H σ Q L q =>
  WE.of (pe_tup paW) (ea_cons ha (ea_cons hb ea_nil hs2) hs B F H σ _ L fun vs F1 H1 e1 r1 => by
    match vs, r1 with
    | [v, u], ⟨h1, h2, _⟩ =>
      exact ⟨by show 2 ≤ sizeLine; decide, fun p hp => by
        have s1 := (L.step e1).same
        have ea := Ext.new (o := .tup [v, u]) s1 hp
        exact q (.ref p) _ _ (e1.trans ea) ⟨p, v, u, rfl, upd_same, i.mono ea.ff h1, j.mono ea.ff h2⟩⟩)
theorem sq_of {K : PySem.W.Frag} {F H : Hp} (s : Same F H) {a : Addr} {vs : List V} (h : F a = some (.lst vs)) : SqL K H a vs := .inl (.inl (s _ _ h))
theorem st_of {K : PySem.W.Frag} {F H : Hp} (s : Same F H) {a : Addr} {vs : List V} (h : F a = some (.tup vs)) : SqT K H a vs := .inl (.inl (s _ _ h))
theorem ev_callB1 {n : Str} {id : String} {x : α} {z : β} {r : List V → Hp → VK → Prop} (hc : CallR X (.builtin id) r) (hm : X.mg n = none) (hv : bootBuiltins n = some (.builtin id)) (h : EV X Γ e x)
    (hr : ∀ F H v Q, Same F H → i.rp X.K F v x → (∀ w F' H', Ext F H F' H' → j.rp X.K F' w z → Q w H') → r [v] H Q) (hg : autoParam (Gl X n) aRfl) (hn : autoParam (n ≠ "__name__") aDec) (hd : autoParam ((n == ("__debug__" : Str)) = false) aDec)
    (hs : autoParam (starEach [e] X.env = (false, eval e X.env) :: starEach [] X.env) aStar) (hpl : autoParam ((backTo pos (starEach [] X.env)).any (·.1) = false) aPl) : EV X Γ (.Call (.Name n p) [e] [] pos) z := fun B F H σ Q L q =>
  WE.of (pe_callB hc hg hm hv (pa_cons peW pa_nil hs) hn hd hs hpl) (h B F H σ _ L fun v F1 H1 e1 r1 => hr F1 H1 v Q (L.step e1).same r1 fun w F2 H2 e2 r2 => q w F2 H2 (e1.trans e2) r2)
theorem ev_len {xs : List α} (hm : X.mg "len" = none) (h : EV X Γ e xs) (hg : autoParam (Gl X "len") aRfl) (hs : autoParam (starEach [e] X.env = (false, eval e X.env) :: starEach [] X.env) aStar) (hpl : autoParam ((backTo pos (starEach [] X.env)).any (·.1) = false) aPl) :
    EV X Γ (.Call (.Name "len" p) [e] [] pos) (xs.length : Int) :=
  ev_callB1 call_len_seq hm PySem.boot_len h (fun F H v Q s r q => by
    obtain ⟨a, vs, rfl, ha, pr⟩ := r
    exact ⟨a, vs, rfl, .inl (sq_of s ha), q _ F H (Ext.refl s) (by rw [Paired.length pr]; rfl)⟩) hg (by decide) (by decide) hs hpl
theorem ev_lenScr {xs : Scr} (hm : X.mg "len" = none) (h : EV X Γ e xs) (hg : autoParam (Gl X "len") aRfl) (hs : autoParam (starEach [e] X.env = (false, eval e X.env) :: starEach [] X.env) aStar) (hpl : autoParam ((backTo pos (starEach [] X.env)).any (·.1) = false) aPl) :
    EV X Γ (.Call (.Name "len" p) [e] [] pos) (xs.l.length : Int) :=
  ev_callB1 call_len_seq hm PySem.boot_len h (fun F H v Q s r q => by
    obtain ⟨a, rfl, ha⟩ := r
    exact ⟨a, _, rfl, .inl (s.seq ha), q _ F H (Ext.refl s) (by rw [List.length_map]; rfl)⟩) hg (by decide) (by decide) hs hpl
theorem ev_lenS {x : Tx} (hm : X.mg "len" = none) (h : EV X Γ e x) (hz : x.length ≤ sizeLine) (hg : autoParam (Gl X "len") aRfl) (hs : autoParam (starEach [e] X.env = (false, eval e X.env) :: starEach [] X.env) aStar) (hpl : autoParam ((backTo pos (starEach [] X.env)).any (·.1) = false) aPl) :
    EV X Γ (.Call (.Name "len" p) [e] [] pos) (x.length : Int) :=
  ev_callB1 call_len_str hm PySem.boot_len h (fun F H v Q s r q => ⟨sx x, by rw [show v = V.str (sx x) from r], by rw [sx_len]; exact hz, q _ F H (Ext.refl s) (by rw [sx_len]; rfl)⟩) hg (by decide) (by decide) hs hpl
theorem ev_ixL {xs : List α} {n : Int} {x : α} (ha : EV X Γ a xs) (hb : EV X Γ b n) (hx : atI xs n = some x) (hp : autoParam (PlainIx b) Tw.aIR2) : EV X Γ (.Subscript a b pos) x := fun B F H σ Q L q =>
  WE.of (pe_ix ix_list peW peW hp) (ha B F H σ _ L fun v F1 H1 e1 r1 => hb B F1 H1 σ _ (L.step e1) fun u F2 H2 e2 r2 => by
    obtain ⟨ad, vs, rfl, h1, pr⟩ := r1
    obtain ⟨k, hk, hx⟩ := Option.bind_eq_some_iff.mp hx
    obtain ⟨w, hw, rw'⟩ := pgetL pr hx
    have s2 := (L.step (e1.trans e2)).same
    exact ⟨ad, vs, n, w, rfl, r2, sq_of s2 (e2.ff _ _ h1), by unfold atI; rw [Paired.length pr, hk]; exact hw, q w F2 H2 (e1.trans e2) (i.mono e2.ff rw')⟩)
theorem ev_ixT {xs : Tup α} {n : Int} {x : α} (ha : EV X Γ a xs) (hb : EV X Γ b n) (hx : atI xs.l n = some x) (hp : autoParam (PlainIx b) Tw.aIR2) : EV X Γ (.Subscript a b pos) x := fun B F H σ Q L q =>
  WE.of (pe_ix ix_tup peW peW hp) (ha B F H σ _ L fun v F1 H1 e1 r1 => hb B F1 H1 σ _ (L.step e1) fun u F2 H2 e2 r2 => by
    obtain ⟨ad, vs, rfl, h1, pr⟩ := r1
    obtain ⟨k, hk, hx⟩ := Option.bind_eq_some_iff.mp hx
    obtain ⟨w, hw, rw'⟩ := pgetL pr hx
    have s2 := (L.step (e1.trans e2)).same
    exact ⟨ad, vs, n, w, rfl, r2, st_of s2 (e2.ff _ _ h1), by unfold atI; rw [Paired.length pr, hk]; exact hw, q w F2 H2 (e1.trans e2) (i.mono e2.ff rw')⟩)
theorem ev_ixScr {xs : Scr} {n : Int} {x : Int} (ha : EV X Γ a xs) (hb : EV X Γ b n) (hx : atI xs.l n = some x) (hp : autoParam (PlainIx b) Tw.aIR2) : EV X Γ (.Subscript a b pos) x := fun B F H σ Q L q =>
  WE.of (pe_ix ix_list peW peW hp) (ha B F H σ _ L fun v F1 H1 e1 r1 => hb B F1 H1 σ _ (L.step e1) fun u F2 H2 e2 r2 => by
    obtain ⟨ad, rfl, h1⟩ := r1
    obtain ⟨k, hk, hx⟩ := Option.bind_eq_some_iff.mp hx
    have s2 := (L.step (e1.trans e2)).same
    exact ⟨ad, _, n, .int x, rfl, r2, s2.seq (e2.ff.seq h1), by unfold atI; rw [List.length_map, hk]; show (xs.l.map V.int)[k]? = _; rw [List.getElem?_map, hx]; rfl, q _ F2 H2 (e1.trans e2) rfl⟩)
theorem ev_ixS {x : Tx} {n : Int} {z : Nat} (ha : EV X Γ a x) (hb : EV X Γ b n) (hx : atI x n = some z) (hz : x.length ≤ sizeLine) (hp : autoParam (PlainIx b) Tw.aIR2) : EV X Γ (.Subscript a b pos) ([z] : Tx) := fun B F H σ Q L q =>
  WE.of (pe_ix ix_str peW peW hp) (ha B F H σ _ L fun v F1 H1 e1 r1 => hb B F1 H1 σ _ (L.step e1) fun u F2 H2 e2 r2 =>
    ⟨sx x, n, z, r1, r2, by rw [sx_len]; exact hz, hx, q _ F2 H2 (e1.trans e2) rfl⟩)
noncomputable def EO (X : Cx) (Γ : List Slot) (e : Option Expr) (o : Option Int) : Prop := match e, o with
  | none, none => True
  | some e, some n => EV X Γ e n
  | _, _ => False
noncomputable def WO (X : Cx) (e : Option Expr) (Γ : List Slot) : TO := match e with
  | none => tNoPart
  | some e => tPart (WE X e)
theorem poW {e : Option Expr} : PO X e (WO X e Γ) := by
  cases e with
  | none => exact po_none
  | some e => exact po_some peW
theorem eo_run {e : Option Expr} {o : Option Int} (h : EO X Γ e o) {B : Bs} {F H : Hp} {σ : L2.St} {Q : Option Int → Hp → Prop} (L : Lc X.K B F H σ Γ) (q : ∀ F' H', Ext F H F' H' → Q o H') : WO X e Γ σ H Q := by
  cases e with
  | none =>
    cases o with
    | none => exact q F H (Ext.refl L.same)
    | some n => exact h.elim
  | some e =>
    cases o with
    | none => exact h.elim
    | some n => exact h B F H σ _ L fun v F1 H1 e1 r1 => ⟨n, r1, q F1 H1 e1⟩
noncomputable def cutL {A : Type} (xs : List A) (lo hi : Option Int) : List A := (xs.drop (HT.sIx xs.length 0 lo)).take (HT.sIx xs.length xs.length hi - HT.sIx xs.length 0 lo)
theorem en_sliceL {p2 : Pos} {lo hi : Option Expr} {o1 o2 : Option Int} {xs : List α} (ha : EV X Γ a xs) (hl : EO X Γ lo o1) (hh : EO X Γ hi o2) : EN X Γ (.Subscript a (.Slice lo hi none p2) pos) (cutL xs o1 o2) := fun B F H σ Q L q =>
  WE.of (pe_slice sl_list peW (poW (Γ := Γ)) (poW (Γ := Γ))) (ha B F H σ _ L fun v F1 H1 e1 r1 => eo_run hl (L.step e1) fun F2 H2 e2 => eo_run hh (L.step (e1.trans e2)) fun F3 H3 e3 => by
    obtain ⟨ad, vs, rfl, h1, pr⟩ := r1
    have e123 := (e1.trans e2).trans e3
    have s3 := (L.step e123).same
    have e23 := e2.trans e3
    refine ⟨ad, vs, rfl, sq_of s3 (e23.ff _ _ h1), fun p hp => ?_⟩
    refine q p _ F3 _ (e123.trans (Ext.apart s3 hp)) (e123.hs.free hp) (s3.free hp) upd_same ?_
    unfold cutV cutL
    rw [Paired.length pr]
    exact ptake _ (pdrop _ (Paired.mapP pr fun _ _ z => i.mono e23.ff z)))
theorem ev_sliceS {p2 : Pos} {lo hi : Option Expr} {o1 o2 : Option Int} {x : Tx} (ha : EV X Γ a x) (hl : EO X Γ lo o1) (hh : EO X Γ hi o2) (hz : x.length ≤ sizeLine) : EV X Γ (.Subscript a (.Slice lo hi none p2) pos) (cutL x o1 o2) := fun B F H σ Q L q =>
  WE.of (pe_slice sl_str peW (poW (Γ := Γ)) (poW (Γ := Γ))) (ha B F H σ _ L fun v F1 H1 e1 r1 => eo_run hl (L.step e1) fun F2 H2 e2 => eo_run hh (L.step (e1.trans e2)) fun F3 H3 e3 =>
    ⟨sx x, r1, by rw [sx_len]; exact hz, q _ F3 H3 ((e1.trans e2).trans e3) (congrArg V.str (by
      unfold cutS cutL
      rw [sx_len]
      rfl))⟩)
end
end Tw
namespace Tw
open PySem PySem.Spec PyProof.Rows L2 TL
section
variable {X : Cx} {Γ : List Slot} {α β γ : Type} {i : Rep α} {j : Rep β} {l : Rep γ} {pos p : Pos} {e a b c : Expr} {es : List Expr} {E : SE} {rest body : List Stmt}
theorem ED.seq {B : Bs} {F0 : Hp} {D : Ends} (ed : ED X B F0 E D) : ED X B F0 { E with nx := fun Γ' => ST X rest Γ' E } { D with nx := fun σ' H' => WP X rest D σ' H' } :=
  ⟨fun F H σ Γ s h L => h B F H σ D L (ed.weak s), ed.rt, ed.bk, ed.ct, ed.ex⟩
theorem st_nil (h : E.nx Γ) : ST X [] Γ E := fun B F H σ D L ed => WP.of pss_nil (ed.nx F H σ Γ (Same.refl F) h L)
theorem st_set (k : Nat) {n : Str} {x : α} (he : EV X Γ e x) (hr : ST X rest (Γ.set k (.val i x)) E) (hN : X.N.Nodup) (hi : autoParam (X.N[k]? = some n) aRfl) (hx : autoParam (L2.Loc X.env.scope n) aLoc)
    (hs : autoParam (swapsWith e (some (.Name n p)) pos.line X.env = pure false) aRfl) (hf : autoParam (X.fn n = true ∨ X.env.scope.names.lookup n = some .local) Tw.aFn) : ST X (.Assign [.Name n p] e pos :: rest) Γ E := fun B F H σ D L ed =>
  WP.cons (ps_set hN hi hx peW hs hf) (he B F H σ _ L fun v F1 H1 e1 r1 => hr B F1 H1 _ D ((L.step e1).putV k r1) (ed.weak e1.ff))
theorem st_setN (k : Nat) {n : Str} {xs : List α} (he : EN X Γ e xs) (hr : ∀ ad, ST X rest (Γ.set k (.lst i ad xs)) E) (hN : X.N.Nodup) (hi : autoParam (X.N[k]? = some n) aRfl) (hx : autoParam (L2.Loc X.env.scope n) aLoc)
    (hs : autoParam (swapsWith e (some (.Name n p)) pos.line X.env = pure false) aRfl) (hf : autoParam (X.fn n = true ∨ X.env.scope.names.lookup n = some .local) Tw.aFn) : ST X (.Assign [.Name n p] e pos :: rest) Γ E := fun B F H σ D L ed =>
  WP.cons (ps_set hN hi hx peW hs hf) (he B F H σ _ L fun ad vs F1 H1 e1 ha fa h1 pr => hr ad B F1 H1 _ D (L.putL k e1 ha fa h1 pr) (ed.weak e1.ff))
theorem st_ret {P : Ret → Prop} (he : EX X Γ e P) (hP : ∀ r, P r → E.rt r) : ST X (.Return (some e) pos :: rest) Γ E := fun B F H σ D L ed =>
  WP.cons (ps_ret peW) (he B F H σ _ L fun r v F1 H1 hr e1 ok => ed.rt r v F1 H1 (hP r hr) (L.step e1).ext (ok.imp fun b h => L.nw h))
theorem st_retV {x : α} (he : EV X Γ e x) (hP : E.rt (.val i x)) : ST X (.Return (some e) pos :: rest) Γ E := st_ret (P := fun r => r = .val i x) (ex_of_ev he rfl) fun r h => h ▸ hP
theorem st_retE {xs : List α} (he : EN X Γ e xs) (hP : E.rt (.new i xs)) : ST X (.Return (some e) pos :: rest) Γ E := st_ret (P := fun r => r = .new i xs) (ex_of_en he rfl) fun r h => h ▸ hP
theorem st_retL (k : Nat) {n : Str} {ad : Addr} {xs : List α} (hP : E.rt (.new i xs)) (hN : autoParam (X.N[k]? = some n) aRfl) (hv : autoParam (Vis X.env.scope n) aVis) (hd : autoParam ((n == ("__debug__" : Str)) = false) aDec)
    (hcd : autoParam ((n == ("__classdict__" : Str)) = false) aDec) (hg : autoParam (Γ[k]? = some (.lst i ad xs)) aRfl) : ST X (.Return (some (.Name n p)) pos :: rest) Γ E := fun B F H σ D L ed => by
  obtain ⟨vs, ea, fa, ba, ha, pr⟩ := slot_lst L hg
  exact WP.cons (ps_ret (pe_var hN hv hd hcd)) ⟨_, ea, ed.rt _ _ F H hP L.ext ⟨ad, vs, rfl, ba, fa, ha, pr⟩⟩
theorem st_if {k : Bool} {A C : List Stmt} (hc : ET X Γ c k) (hA : k = true → ST X A Γ { E with nx := fun Γ' => ST X rest Γ' E }) (hC : k = false → ST X C Γ { E with nx := fun Γ' => ST X rest Γ' E }) : ST X (.If c A C pos :: rest) Γ E := fun B F H σ D L ed =>
  WP.cons (ps_if ptW psW psW) (hc B F H σ _ L fun F1 H1 e1 => by
    cases k with
    | true => exact hA rfl B F1 H1 σ _ (L.step e1) ((ed.weak e1.ff).seq)
    | false => exact hC rfl B F1 H1 σ _ (L.step e1) ((ed.weak e1.ff).seq))
theorem st_drop {P : Ret → Prop} (he : EX X Γ e P) (hr : ST X rest Γ E) (hs : autoParam (swapsWith e none pos.line X.env = pure false) aRfl) : ST X (.Expr e pos :: rest) Γ E := fun B F H σ D L ed =>
  WP.cons (ps_expr peW hs) (he B F H σ _ L fun r v F1 H1 _ e1 _ => hr B F1 H1 σ D (L.step e1) (ed.weak e1.ff))
theorem st_append (k : Nat) {n : Str} {ad : Addr} {xs : List α} {x : α} {apos cpos : Pos} (he : EV X Γ e x) (hr : ST X rest (Γ.set k (.lst i ad (xs ++ [x]))) E) (hz : xs.length < sizeLine) (hg : autoParam (Γ[k]? = some (.lst i ad xs)) aRfl) (hN : autoParam (X.N[k]? = some n) aRfl)
    (hv : autoParam (Vis X.env.scope n) aVis) (hd : autoParam ((n == ("__debug__" : Str)) = false) aDec) (hcd : autoParam ((n == ("__classdict__" : Str)) = false) aDec)
    (hbase : autoParam (attributeBase (.Name n p) "append" X.env (eval (.Name n p) X.env) = eval (.Name n p) X.env) aRfl)
    (hfew : autoParam (((backTo cpos (starEach [e] X.env)).all (fun x => !x.1) && (backToKw cpos (keywordEach [] X.env)).all (fun x => x.1.isSome) && decide ([e].length + ([] : List Keyword).length + (if ([] : List Keyword).isEmpty then 0 else 1) < 30)) = true) aRfl)
    (hline : autoParam ((apos.endLine == cpos.line) = true) aRfl) (hs : autoParam (starEach [e] X.env = (false, eval e X.env) :: starEach [] X.env) aStar) (hplain : autoParam ((backTo cpos (starEach [] X.env)).any (·.1) = false) aRfl)
    (hsw : autoParam (swapsWith (.Call (.Attribute (.Name n p) "append" apos) [e] [] cpos) none pos.line X.env = pure false) aRfl) :
    ST X (.Expr (.Call (.Attribute (.Name n p) "append" apos) [e] [] cpos) pos :: rest) Γ E := fun B F H σ D L ed => by
  obtain ⟨vs, ea, fa, ba, ha, pr⟩ := slot_lst L hg
  refine WP.cons (ps_expr (pe_bm PySem.F.plainAttrs_list PySem.F.slot_list_append PySem.F.type_list_append mt_append (pe_var hN hv hd hcd) (pa_cons peW pa_nil hs) hbase hfew hline hs hplain) hsw) ?_
  refine ⟨_, ea, .inl ⟨rfl, _, .inl (.inl ha)⟩, he B F H σ _ L fun v F1 H1 e1 r1 => ?_⟩
  have L1 := L.step e1
  obtain ⟨vs1, _, _, _, ha1, pr1⟩ := slot_lst L1 hg
  refine ⟨ad, vs1, v, rfl, rfl, ha1, by rw [Paired.length pr1]; exact hz, ?_⟩
  exact hr B F1 _ σ D (L1.updL hg (papp pr1 (.cons r1 .nil))) (ed.weak e1.ff)
noncomputable def Yields (K : PySem.W.Frag) (J : It) (F1 : Hp) {α : Type} [i : Rep α] (xs : List α) : Prop :=
  ∀ F2 H2, Same F1 F2 → Same F2 H2 → (∀ (k : Nat) x, xs[k]? = some x → J.go k H2 ∧ ∀ v H3, J.yld k H2 v H3 → ∃ F3, Ext F2 H2 F3 H3 ∧ i.rp K F3 v x) ∧ J.stop xs.length H2
noncomputable def Src (X : Cx) (Γ : List Slot) (tg it : Expr) {α : Type} [i : Rep α] (xs : List α) : Prop :=
  ∃ wi, PI X tg it wi ∧ ∀ B F H σ R, Lc X.K B F H σ Γ → (∀ J F1 H1, Ext F H F1 H1 → Yields X.K J F1 xs → R J H1) → wi σ H R
variable {tg it : Expr}
theorem src_list {xs : List α} (h : EV X Γ it xs) : Src X Γ tg it xs := ⟨_, pi_list peW, fun B F H σ R L q => h B F H σ _ L fun v F1 H1 e1 r1 => by
  obtain ⟨ad, vs, rfl, ha, pr⟩ := r1
  refine ⟨ad, rfl, ⟨vs, sq_of (L.step e1).same ha⟩, q _ F1 H1 e1 fun F2 H2 s1 s2 => ⟨fun k x hx => ?_, vs, sq_of s2 (s1 _ _ ha), by rw [Paired.length pr]; exact Nat.le_refl _⟩⟩
  obtain ⟨w, hw, rw'⟩ := pgetL pr hx
  refine ⟨⟨vs, w, sq_of s2 (s1 _ _ ha), hw⟩, fun v H3 hy => ?_⟩
  obtain ⟨rfl, hy⟩ := hy
  have : v = w := Option.some.inj ((hy vs (sq_of s2 (s1 _ _ ha))).symm.trans hw)
  subst this
  exact ⟨F2, Ext.refl s2, i.mono s1 rw'⟩⟩
theorem src_tup {xs : Tup α} (h : EV X Γ it xs) : Src X Γ tg it xs.l := ⟨_, pi_tup peW, fun B F H σ R L q => h B F H σ _ L fun v F1 H1 e1 r1 => by
  obtain ⟨ad, vs, rfl, ha, pr⟩ := r1
  refine ⟨ad, rfl, ⟨vs, st_of (L.step e1).same ha⟩, q _ F1 H1 e1 fun F2 H2 s1 s2 => ⟨fun k x hx => ?_, vs, st_of s2 (s1 _ _ ha), by rw [Paired.length pr]; exact Nat.le_refl _⟩⟩
  obtain ⟨w, hw, rw'⟩ := pgetL pr hx
  refine ⟨⟨vs, w, st_of s2 (s1 _ _ ha), hw⟩, fun v H3 hy => ?_⟩
  obtain ⟨rfl, hy⟩ := hy
  have : v = w := Option.some.inj ((hy vs (st_of s2 (s1 _ _ ha))).symm.trans hw)
  subst this
  exact ⟨F2, Ext.refl s2, i.mono s1 rw'⟩⟩
theorem src_rev {xs : List α} {p2 : Pos} (hm : X.mg "reversed" = none) (h : EV X Γ it xs) (hg : autoParam (Gl X "reversed") aRfl) (hs : autoParam (starEach [it] X.env = [(false, eval it X.env)]) aStar) : Src X Γ tg (.Call (.Name "reversed" p) [it] [] p2) xs.reverse := ⟨_, pi_reversed hg hm (pa_cons peW pa_nil hs) hs, fun B F H σ R L q => h B F H σ _ L fun v F1 H1 e1 r1 => by
  obtain ⟨ad, vs, rfl, ha, pr⟩ := r1
  refine ⟨ad, vs, rfl, sq_of (L.step e1).same ha, q _ F1 H1 e1 fun F2 H2 s1 s2 => ⟨fun k x hx => ?_, by show vs.length ≤ _; rw [Paired.length pr, List.length_reverse]; exact Nat.le_refl _⟩⟩
  have hk : k < xs.length := by have := (List.getElem?_eq_some_iff.mp hx).1; simpa using this
  rw [List.getElem?_reverse hk] at hx
  obtain ⟨w, hw, rw'⟩ := pgetL pr hx
  rw [← Paired.length pr] at hw hk
  refine ⟨⟨hk, vs, w, sq_of s2 (s1 _ _ ha), hw⟩, fun v H3 hy => ?_⟩
  obtain ⟨rfl, hy⟩ := hy
  have : v = w := Option.some.inj ((hy vs (sq_of s2 (s1 _ _ ha))).symm.trans hw)
  subst this
  exact ⟨F2, Ext.refl s2, i.mono s1 rw'⟩⟩
theorem src_str {x : Tx} (h : EV X Γ it x) : Src X Γ tg it (x.map fun c => ([c] : Tx)) := ⟨_, pi_str peW, fun B F H σ R L q => h B F H σ _ L fun v F1 H1 e1 r1 => by
  obtain rfl : v = .str (sx x) := r1
  refine ⟨sx x, rfl, q _ F1 H1 e1 fun F2 H2 s1 s2 => ⟨fun k y hy => ?_, by show x.toArray.size ≤ _; simp⟩⟩
  have hk : k < x.length := by have := (List.getElem?_eq_some_iff.mp hy).1; simpa using this
  refine ⟨by show k < x.toArray.size; simpa using hk, fun v H3 hv => ?_⟩
  obtain ⟨rfl, c, hc, rfl⟩ := hv
  refine ⟨F2, Ext.refl s2, ?_⟩
  rw [List.getElem?_map] at hy
  have hc' : x[k]? = some c := by simpa [sx] using hc
  rw [hc'] at hy
  obtain rfl : ([c] : Tx) = y := Option.some.inj hy
  rfl⟩
noncomputable def rng (lo : Int) (n : Nat) : List Int := (List.range n).map fun (k : Nat) => lo + (k : Int)
theorem rng_get {lo : Int} {n k : Nat} {x : Int} (h : (rng lo n)[k]? = some x) : k < n ∧ x = lo + k := by
  unfold rng at h
  rw [List.getElem?_map] at h
  by_cases hk : k < n
  · rw [List.getElem?_range hk] at h
    exact ⟨hk, (Option.some.inj h).symm⟩
  · rw [List.getElem?_eq_none (by simpa using hk)] at h; cases h
theorem rng_len {lo : Int} {n : Nat} : (rng lo n).length = n := by unfold rng; simp
theorem yields_rng {K : PySem.W.Frag} {F1 : Hp} {lo : Int} {n : Nat} : Yields K (Itr lo n) F1 (rng lo n) := fun F2 H2 s1 s2 => ⟨fun k x hx => by
  obtain ⟨hk, rfl⟩ := rng_get hx
  exact ⟨hk, fun v H3 hy => by obtain ⟨rfl, rfl⟩ := hy; exact ⟨F2, Ext.refl s2, rfl⟩⟩, by show n ≤ _; rw [rng_len]; exact Nat.le_refl _⟩
theorem src_range {n : Int} {p2 : Pos} (hm : X.mg "range" = none) (h : EV X Γ it n) (h1 : -(2 ^ 62) ≤ n) (h2 : n < 2 ^ 62) (hg : autoParam (Gl X "range") aRfl) (hs : autoParam (starEach [it] X.env = [(false, eval it X.env)]) aStar) : Src X Γ tg (.Call (.Name "range" p) [it] [] p2) (rng 0 n.toNat) :=
  ⟨_, pi_range1 hg hm (pa_cons peW pa_nil hs) hs, fun B F H σ R L q => h B F H σ _ L fun v F1 H1 e1 r1 => by
    obtain rfl : v = .int n := r1
    exact ⟨n, rfl, h1, h2, q _ F1 H1 e1 yields_rng⟩⟩
theorem src_range2 {m n : Int} {p2 : Pos} (hm : X.mg "range" = none) (ha : EV X Γ a m) (hb : EV X Γ b n) (h : -(2 ^ 62) ≤ m ∧ m < 2 ^ 62 ∧ -(2 ^ 62) ≤ n ∧ n < 2 ^ 62) (hg : autoParam (Gl X "range") aRfl)
    (hs : autoParam (starEach [a, b] X.env = [(false, eval a X.env), (false, eval b X.env)]) aStar) (hs2 : autoParam (starEach [b] X.env = [(false, eval b X.env)]) aStar) : Src X Γ tg (.Call (.Name "range" p) [a, b] [] p2) (rng m (n - m).toNat) :=
  ⟨_, pi_range2 hg hm (pa_cons peW (pa_cons peW pa_nil hs2) (by rw [hs, hs2])) hs hs2, fun B F H σ R L q => ha B F H σ _ L fun v F1 H1 e1 r1 => hb B F1 H1 σ _ (L.step e1) fun u F2 H2 e2 r2 => by
    obtain rfl : v = .int m := r1
    obtain rfl : u = .int n := r2
    exact ⟨m, n, rfl, h, q _ F2 H2 (e1.trans e2) yields_rng⟩⟩
theorem wipe_get {σ : L2.St} {k : Nat} : ∀ vs : List Nat, (wipe σ vs)[k]? = if k ∈ vs then (σ[k]?).map (fun _ => none) else σ[k]?
  | [] => by simp [wipe]
  | v :: vs => by
    unfold wipe
    by_cases h : v = k
    · subst h
      rw [if_pos (List.mem_cons_self ..), List.getElem?_set]
      rw [if_pos rfl]
      by_cases hl : v < σ.length
      · rw [if_pos (by rw [wipe_length]; exact hl), List.getElem?_eq_getElem hl]; rfl
      · rw [if_neg (by rw [wipe_length]; exact hl), List.getElem?_eq_none (by omega)]; rfl
    · rw [List.getElem?_set_ne h, wipe_get vs]
      have : (k ∈ v :: vs) ↔ k ∈ vs := by simp [Ne.symm h]
      simp only [this]
theorem wipe_wipe (σ : L2.St) (vs : List Nat) : wipe (wipe σ vs) vs = wipe σ vs := by
  refine List.ext_getElem? fun k => ?_
  rw [wipe_get, wipe_get]
  split
  · cases σ[k]? <;> rfl
  · rfl
noncomputable def wipeS (Γ : List Slot) : List Nat → List Slot
  | [] => Γ
  | v :: vs => (wipeS Γ vs).set v .no
theorem Lc.wipe {K : PySem.W.Frag} {B : Bs} {F H : Hp} {σ : L2.St} {Γ : List Slot} (L : Lc K B F H σ Γ) : ∀ vs : List Nat, Lc K B F H (L2.wipe σ vs) (wipeS Γ vs)
  | [] => L
  | v :: vs => (L.wipe vs).putN v none
structure Tg (K : PySem.W.Frag) (g : TG) {α : Type} [i : Rep α] (bind : α → List Slot → List Slot) (vs : List Nat) : Prop where
  run : ∀ B F H σ Γ v x Q, Lc K B F H σ Γ → i.rp K F v x → (∀ σ2, Lc K B F H σ2 (bind x Γ) → wipe σ2 vs = wipe σ vs → Q σ2 H) → g v σ H Q
theorem tg_name {K : PySem.W.Frag} (k : Nat) : Tg K (gName k) (fun (x : α) Γ => Γ.set k (.val i x)) [k] := ⟨fun B F H σ Γ v x Q L r q => q _ (L.putV k r) (by show (σ.set k (some v)).set k none = σ.set k none; rw [List.set_set])⟩
theorem tg_pair {K : PySem.W.Frag} (k m : Nat) (hkm : k ≠ m) : Tg K (gTup K 2 (gCons (gName k) (gCons (gName m) gNil))) (fun (x : α × β) Γ => (Γ.set k (.val i x.1)).set m (.val j x.2)) [k, m] := ⟨fun B F H σ Γ v x Q L r q => by
  obtain ⟨ad, u, w, rfl, ha, r1, r2⟩ := r
  refine ⟨ad, [u, w], rfl, st_of L.same ha, rfl, u, [w], rfl, w, [], rfl, rfl, q _ ((L.putV k r1).putV m r2) ?_⟩
  show ((((σ.set k (some u)).set m (some w)).set m none).set k none) = (σ.set m none).set k none
  rw [List.set_set, List.set_comm _ _ hkm, List.set_set]⟩
theorem st_for {xs : List α} {bind : α → List Slot → List Slot} {vs : List Nat} {g : TG} (P : Nat → List Slot → Prop) (hS : Src X Γ tg it xs) (hT : Tg X.K g bind vs) (h0 : P 0 Γ)
    (hb : ∀ (k : Nat) x Γ', xs[k]? = some x → P k Γ' → ST X body (bind x Γ') { nx := P (k + 1), ct := P (k + 1), bk := fun Γ2 => ST X rest Γ2 E, rt := E.rt, ex := E.ex })
    (hd : ∀ Γ', P xs.length Γ' → ST X rest Γ' E) (hg : PG X tg g) (hp : autoParam (PassesOwn (model X.prog X.w) X.A X.env X.xe) Tw.aPass) (hc : autoParam (X.calm = true) aRfl) (hs : autoParam (∀ x, foldedSetIterable it X.env x = pure x) Tw.aIR1) :
    ST X (.For tg it body [] pos :: rest) Γ E := fun B F H σ D L ed => by
  obtain ⟨wi, hi, run⟩ := hS
  refine WP.cons (ps_for hp hc hi hg psW hs) (run B F H σ _ L fun J F1 H1 e1 Y => ?_)
  have L1 := L.step e1
  refine ⟨fun t m σ H => m = xs.length - t ∧ t ≤ xs.length ∧ ∃ F2 Γ', P t Γ' ∧ Same F1 F2 ∧ Lc X.K B F2 H σ Γ', ⟨xs.length, rfl, Nat.zero_le _, F1, Γ, h0, Same.refl _, L1⟩, ?_⟩
  rintro t m σ H ⟨rfl, ht, F2, Γ', hP, s12, L2⟩
  have Y2 := Y F2 H s12 L2.same
  by_cases hlt : t < xs.length
  · have hx : xs[t]? = some xs[t] := List.getElem?_eq_getElem hlt
    obtain ⟨go, yl⟩ := Y2.1 t _ hx
    refine .inr ⟨go, fun σ' H' => ∃ F3 Γ3, P (t + 1) Γ3 ∧ Same F1 F3 ∧ Lc X.K B F3 H' σ' Γ3, fun σ' H' h => ⟨xs.length - (t + 1), by omega, rfl, hlt, h⟩, fun v H3 hy => ?_⟩
    obtain ⟨F3, e3, r3⟩ := yl v H3 hy
    refine hT.run B F3 H3 σ Γ' v _ _ (L2.step e3) r3 fun σ2 L4 _ => ?_
    refine hb t _ Γ' hx hP B F3 H3 σ2 _ L4 ⟨fun F5 H5 σ5 Γ5 s5 h5 L5 => ?_, ed.rt, fun F5 H5 σ5 Γ5 s5 h5 L5 => h5 B F5 H5 σ5 D L5 (ed.weak (e1.ff.trans (s12.trans (e3.ff.trans s5)))), fun F5 H5 σ5 Γ5 s5 h5 L5 => ?_, fun F5 H5 σ5 Γ5 x u d s5 h5 L5 => ed.ex F5 H5 σ5 Γ5 x u d (e1.ff.trans (s12.trans (e3.ff.trans s5))) h5 L5⟩
    · exact ⟨F5, Γ5, h5, s12.trans (e3.ff.trans s5), L5⟩
    · exact ⟨F5, Γ5, h5, s12.trans (e3.ff.trans s5), L5⟩
  · have et : t = xs.length := by omega
    subst et
    exact .inl ⟨Y2.2, hd Γ' hP B F2 H σ D L2 (ed.weak (e1.ff.trans s12))⟩
end
end Tw
namespace Tw
open PySem PySem.Spec PyProof.Rows L2 TL
section
variable {X : Cx} {Γ : List Slot} {α β γ : Type} {i : Rep α} {j : Rep β} {l : Rep γ} {pos p : Pos} {e a b c elt tg it : Expr} {es : List Expr} {E : SE} {rest body : List Stmt}
noncomputable abbrev Blk (X : Cx) (scope : Scope) (s : Shared) (H : Hp) (C : Addr) (cl : List (Str × Addr)) (fp : List Addr) : Cx := X.blk s H scope (compEnvC scope cl C X.env) fp
noncomputable def tBlkE (X : Cx) (scope : Scope) (e : Expr) : TE := fun σ H Q => ∀ s H0 C cl fp, WE (Blk X scope s H0 C cl fp) e σ H Q
noncomputable def tBlkT (X : Cx) (scope : Scope) (e : Expr) : TT := fun σ H Q => ∀ s H0 C cl fp, WT (Blk X scope s H0 C cl fp) e σ H Q
theorem lc_run {scope : Scope} {xs : List α} {f : α → β} {q : α → Bool} {bind : α → List Slot → List Slot} {vs : List Nat} {g : TG} {tt : TT} {wi : TI} {B : Bs} {F H : Hp} {σ : L2.St} {Q : VK} (L : Lc X.K B F H σ Γ)
    (run : ∀ R, (∀ J F1 H1, Ext F H F1 H1 → Yields X.K J F1 xs → R J H1) → wi σ H R) (hT : Tg X.K g bind vs)
    (ht : ∀ x ∈ xs, ∀ B F H σ R, Lc X.K B F H σ (bind x (wipeS Γ vs)) → (∀ F' H', Ext F H F' H' → R (q x) H') → tt σ H R)
    (he : ∀ x ∈ xs, q x = true → ∀ s H C cl fp, EV (Blk X scope s H C cl fp) (bind x (wipeS Γ vs)) elt (f x)) (hz : xs.length ≤ sizeLine)
    (k : ∀ a vs F' H', Ext F H F' H' → H a = none → F' a = none → H' a = some (.lst vs) → Paired (fun u x => j.rp X.K F' u x) vs ((xs.filter q).map f) → Q (.ref a) H') : tLc wi g tt (tBlkE X scope elt) vs σ H Q := by
  refine run _ fun J F1 H1 e1 Y D hD => ?_
  have L1 := L.step e1
  refine ⟨fun t m H' => m = xs.length - t ∧ t ≤ xs.length ∧ ∃ F2 acc, Ext F1 H1 F2 H' ∧ F2 D = none ∧ H' D = some (.lst acc) ∧ acc.length ≤ t ∧ Paired (fun u x => j.rp X.K F2 u x) acc (((xs.take t).filter q).map f),
    ⟨xs.length, rfl, Nat.zero_le _, F1, [], Ext.apart L1.same hD, L1.same.free hD, upd_same, Nat.le_refl _, .nil⟩, ?_⟩
  rintro t m H2 ⟨rfl, ht', F2, acc, e2, fD, hD2, hl, pr⟩
  have Y2 := Y F2 H2 e2.ff e2.fh
  by_cases hlt : t < xs.length
  · have hx : xs[t]? = some xs[t] := List.getElem?_eq_getElem hlt
    have hmem : xs[t] ∈ xs := List.getElem_mem hlt
    obtain ⟨go, yl⟩ := Y2.1 t _ hx
    refine .inr ⟨go, fun H' => ∃ F3 acc, Ext F1 H1 F3 H' ∧ F3 D = none ∧ H' D = some (.lst acc) ∧ acc.length ≤ t + 1 ∧ Paired (fun u x => j.rp X.K F3 u x) acc (((xs.take (t + 1)).filter q).map f), fun H' h => ⟨xs.length - (t + 1), by omega, rfl, hlt, h⟩, fun v H3 hy => ?_⟩
    obtain ⟨F3, e3, r3⟩ := yl v H3 hy
    have L3 := ((L1.step e2).wipe vs).step e3
    refine hT.run B F3 H3 _ _ v _ _ L3 r3 fun σ2 L4 hw => ⟨by rw [hw, wipe_wipe], ?_⟩
    refine ht _ hmem B F3 H3 σ2 _ L4 fun F4 H4 e4 => ?_
    have e34 := e3.trans e4
    have fD4 : F4 D = none := e34.nw D fD (by rw [hD2]; exact fun z => nomatch z)
    have etake : xs.take (t + 1) = xs.take t ++ [xs[t]] := by rw [List.take_add_one, hx]; rfl
    by_cases hq : q xs[t] = true
    · rw [if_pos hq]
      intro s H0 C cl fp
      refine he _ hmem hq s H0 C cl fp B F4 H4 σ2 _ (L4.step e4) fun w F5 H5 e5 r5 => ?_
      have e345 := e34.trans e5
      have hD5 : H5 D = some (.lst acc) := e345.hs _ _ hD2
      have fD5 : F5 D = none := e345.nw D fD (by rw [hD2]; exact fun z => nomatch z)
      have e25 := e2.trans e345
      refine ⟨acc, hD5, by omega, F5, acc ++ [w], ⟨e25.ff, same_upd e25.fh fD5, fun b o nb ob => ?_, e25.nwM, fun _ z => z.elim⟩, fD5, upd_same, by simp; exact hl, ?_⟩
      · rw [upd_ne (ne_of_none ob hD)]; exact e25.hh b o nb ob
      · rw [etake, List.filter_append, List.map_append]
        have : ([xs[t]].filter q).map f = [f xs[t]] := by rw [List.filter_cons_of_pos hq]; rfl
        rw [this]
        exact papp (Paired.mapP pr fun _ _ z => j.mono e345.ff z) (.cons r5 .nil)
    · rw [if_neg hq]
      refine ⟨F4, acc, e2.trans e34, fD4, e34.hs _ _ hD2, by omega, ?_⟩
      rw [etake, List.filter_append, List.map_append]
      have : ([xs[t]].filter q).map f = [] := by rw [List.filter_cons_of_neg hq]; rfl
      rw [this, List.append_nil]
      exact Paired.mapP pr fun _ _ z => j.mono e34.ff z
  · have et : t = xs.length := by omega
    subst et
    refine .inl ⟨Y2.2, k D acc F2 H2 (e1.trans e2) (e1.hs.free hD) fD hD2 ?_⟩
    rw [List.take_length] at pr
    exact pr
theorem filter_yes {A : Type} (xs : List A) : xs.filter (fun _ => true) = xs := List.filter_eq_self.mpr fun _ _ => rfl
theorem en_lc {scope : Scope} {own : List (Str × Nat)} {xs : List α} {f : α → β} {bind : α → List Slot → List Slot} {g : TG} (hS : Src X Γ tg it xs) (hT : Tg X.K g bind (own.map (·.2))) (hg : ∀ s H C cl fp, PG (Blk X scope s H C cl fp) tg g)
    (he : ∀ x ∈ xs, ∀ s H C cl fp, EV (Blk X scope s H C cl fp) (bind x (wipeS Γ (own.map (·.2)))) elt (f x)) (hN : X.N.Nodup) (ok : BlkOk X.N X.env.scope scope own := by exact blkOk_by (by decide +kernel)) (hz : xs.length ≤ sizeLine)
    (hc : autoParam (X.calm = true) aRfl) (hs : autoParam (∀ x, foldedSetIterable it X.env x = pure x) Tw.aIR1) : EN X Γ (.ListComp elt [⟨tg, it, [], 0⟩] scope pos) (xs.map f) := fun B F H σ Q L k => by
  obtain ⟨wi, hi, run⟩ := hS
  refine WE.of (pe_lc (te := tBlkE X scope elt) hc hN hi ok hg (fun _ _ _ _ _ => pts_nil) (fun s H C cl fp => ⟨fun pins s' σ H' Q' I h => (h s H C cl fp).go pins s' I⟩) hs) ?_
  refine lc_run (q := fun _ => true) L (fun R => run B F H σ R L) hT (fun x _ B F H σ R L h => h F H (Ext.refl L.same)) (fun x hx _ => he x hx) hz fun a vs F' H' e1 ha fa h' pr => k a vs F' H' e1 ha fa h' ?_
  rw [filter_yes] at pr
  exact pr
theorem en_lcIf {scope : Scope} {own : List (Str × Nat)} {xs : List α} {f : α → β} {q : α → Bool} {bind : α → List Slot → List Slot} {g : TG} (hS : Src X Γ tg it xs) (hT : Tg X.K g bind (own.map (·.2))) (hg : ∀ s H C cl fp, PG (Blk X scope s H C cl fp) tg g)
    (ht : ∀ x ∈ xs, ∀ s H C cl fp, ET (Blk X scope s H C cl fp) (bind x (wipeS Γ (own.map (·.2)))) c (q x))
    (he : ∀ x ∈ xs, q x = true → ∀ s H C cl fp, EV (Blk X scope s H C cl fp) (bind x (wipeS Γ (own.map (·.2)))) elt (f x)) (hN : X.N.Nodup) (ok : BlkOk X.N X.env.scope scope own := by exact blkOk_by (by decide +kernel)) (hz : xs.length ≤ sizeLine)
    (hc : autoParam (X.calm = true) aRfl) (hs : autoParam (∀ x, foldedSetIterable it X.env x = pure x) Tw.aIR1) : EN X Γ (.ListComp elt [⟨tg, it, [c], 0⟩] scope pos) ((xs.filter q).map f) := fun B F H σ Q L k => by
  obtain ⟨wi, hi, run⟩ := hS
  refine WE.of (pe_lc (te := tBlkE X scope elt) (tt := tBlkT X scope c) hc hN hi ok hg (fun s H C cl fp => pts_one ⟨fun pins s' σ H' Q' I h => (h s H C cl fp).go pins s' I⟩) (fun s H C cl fp => ⟨fun pins s' σ H' Q' I h => (h s H C cl fp).go pins s' I⟩) hs) ?_
  exact lc_run L (fun R => run B F H σ R L) hT (fun x hx B F H σ R L h => fun s H0 C cl fp => ht x hx s H0 C cl fp B F H σ R L h) he hz k
theorem st_setLc (m : Nat) {y : Str} {py spos : Pos} {scope : Scope} {own : List (Str × Nat)} {xs : List α} {f : α → β} {bind : α → List Slot → List Slot} {g : TG} (hS : Src X Γ tg it xs) (hT : Tg X.K g bind (own.map (·.2))) (hg : ∀ s H C cl fp, PG (Blk X scope s H C cl fp) tg g)
    (he : ∀ x ∈ xs, ∀ s H C cl fp, EV (Blk X scope s H C cl fp) (bind x (wipeS Γ (own.map (·.2)))) elt (f x)) (hN : X.N.Nodup) (hz : xs.length ≤ sizeLine) (hr : ∀ ad, ST X rest (Γ.set m (.lst j ad (xs.map f))) E)
    (ok : BlkOk X.N X.env.scope scope own := by exact blkOk_by (by decide +kernel)) (hy : autoParam (X.N[m]? = some y) aRfl) (hyl : autoParam (X.env.scope.names.lookup y = some .local) aRfl)
    (hsw : swapsWith (.ListComp elt [⟨tg, it, [], 0⟩] scope pos) (some (.Name y py)) spos.line X.env = pure true := by exact sw_true rfl rfl rfl (by decide +kernel))
    (hc : autoParam (X.calm = true) aRfl) (hs : autoParam (∀ x, foldedSetIterable it X.env x = pure x) Tw.aIR1) : ST X (.Assign [.Name y py] (.ListComp elt [⟨tg, it, [], 0⟩] scope pos) spos :: rest) Γ E := fun B F H σ D L ed => by
  obtain ⟨wi, hi, run⟩ := hS
  refine WP.cons (ps_setLc (te := tBlkE X scope elt) hc hN hy hyl hsw hi ok hg (fun _ _ _ _ _ => pts_nil) (fun s H C cl fp => ⟨fun pins s' σ H' Q' I h => (h s H C cl fp).go pins s' I⟩) hs) ?_
  refine lc_run (q := fun _ => true) L (fun R => run B F H σ R L) hT (fun x _ B F H σ R L h => h F H (Ext.refl L.same)) (fun x hx _ => he x hx) hz fun a vs F' H' e1 ha fa h' pr => ?_
  rw [filter_yes] at pr
  exact hr a B F' H' _ D (L.putL m e1 ha fa h' pr) (ed.weak e1.ff)
theorem ev_join {o : Expr} {sep : Tx} {xs : List Tx} {apos : Pos} (ho : EV X Γ o sep) (h : EV X Γ e xs) (hz : (xs.map (·.length)).sum + xs.length * sep.length ≤ 16777216) (hs : autoParam (starEach [e] X.env = [(false, eval e X.env)]) aStar)
    (hbase : autoParam (attributeBase o "join" X.env (eval o X.env) = eval o X.env) aRfl) (hline : autoParam ((apos.endLine == pos.line) = true) aRfl) : EV X Γ (.Call (.Attribute o "join" apos) [e] [] pos) (joinL sep xs) := fun B F H σ Q L q =>
  WE.of (pe_join peW peW hs hbase hline) (ho B F H σ _ L fun v F1 H1 e1 r1 => ⟨⟨_, r1⟩, h B F1 H1 σ _ (L.step e1) fun u F2 H2 e2 r2 => by
    obtain ⟨ad, vs, rfl, ha, pr⟩ := r2
    have s2 := (L.step (e1.trans e2)).same
    refine ⟨sx sep, ad, xs.map sx, r1, rfl, .inl (by rw [← Rps.strs pr]; exact sq_of s2 ha), ?_, q _ F2 H2 (e1.trans e2) (congrArg V.str ?_)⟩
    · rw [List.map_map, List.length_map, sx_len]
      have : ((fun y : Str => y.length) ∘ sx) = (fun x : Tx => x.length) := funext fun x => sx_len x
      rw [this]; exact hz
    · rw [join_eq]
      refine ext_tl ?_
      rw [tl_join, List.map_map]
      have : (tl ∘ sx) = (id : Tx → Tx) := funext fun x => tl_sx x
      rw [this, List.map_id]
      rfl⟩)
theorem joinL_one {x : Tx} : joinL [] (x.map fun c => ([c] : Tx)) = x := by
  have : ∀ (y : List Tx), joinL [] y = y.flatten := by
    intro y
    induction y with
    | nil => rfl
    | cons a r ih =>
      cases r with
      | nil => simp [joinL]
      | cons b r => rw [joinL, ih]; simp
  rw [this]
  induction x with
  | nil => rfl
  | cons a r ih => rw [List.map_cons, List.flatten_cons, ih]; rfl
theorem ev_joinRev {o : Expr} {x : Tx} {apos pos2 : Pos} (hm : X.mg "reversed" = none) (ho : EV X Γ o ([] : Tx)) (h : EV X Γ e x) (hz : x.length ≤ 16777216) (hg : autoParam (Gl X "reversed") aRfl) (hc : autoParam (X.calm = true) aRfl)
    (hs1 : autoParam (starEach [.Call (.Name "reversed" p) [e] [] pos2] X.env = [(false, eval (.Call (.Name "reversed" p) [e] [] pos2) X.env)]) aStar) (hs : autoParam (starEach [e] X.env = (false, eval e X.env) :: starEach [] X.env) aStar)
    (hbase : autoParam (attributeBase o "join" X.env (eval o X.env) = eval o X.env) aRfl) (hline : autoParam ((apos.endLine == pos.line) = true) aRfl) : EV X Γ (.Call (.Attribute o "join" apos) [.Call (.Name "reversed" p) [e] [] pos2] [] pos) (x.reverse) := fun B F H σ Q L q =>
  WE.of (pe_joinRev hc peW hg hm peW hs1 hs hbase hline) (ho B F H σ _ L fun v F1 H1 e1 r1 => ⟨⟨_, r1⟩, h B F1 H1 σ _ (L.step e1) fun u F2 H2 e2 r2 => by
    refine ⟨sx [], sx x, r1, r2, ?_, ?_, q _ F2 H2 (e1.trans e2) (congrArg V.str ?_)⟩
    · rw [sx_len]; exact Nat.le_trans hz (by decide)
    · rw [sx_len, sx_len]; show x.length + x.length * 0 ≤ _; omega
    · rw [join_eq]
      refine ext_tl ?_
      rw [tl_join, List.map_map]
      show joinL [] (x.reverse.map (tl ∘ RevS.one)) = _
      have : (tl ∘ RevS.one) = fun c => ([c] : Tx) := rfl
      rw [this, joinL_one]
      rfl⟩)
theorem en_list {xs : List α} (hm : X.mg "list" = none) (h : EV X Γ e xs) (hg : autoParam (Gl X "list") aRfl) (hs : autoParam (starEach [e] X.env = (false, eval e X.env) :: starEach [] X.env) aStar) (hpl : autoParam ((backTo pos (starEach [] X.env)).any (·.1) = false) aPl) :
    EN X Γ (.Call (.Name "list" p) [e] [] pos) xs := fun B F H σ Q L q =>
  WE.of (pe_callTy call_list_of hg hm (by decide +kernel) (pa_cons peW pa_nil hs) (by decide) (by decide) hs hpl) (h B F H σ _ L fun v F1 H1 e1 r1 => by
    obtain ⟨ad, vs, rfl, ha, pr⟩ := r1
    have s1 := (L.step e1).same
    exact ⟨ad, vs, rfl, .inl (sq_of s1 ha), fun q' hq => q q' vs F1 _ (e1.trans (Ext.apart s1 hq)) (e1.hs.free hq) (s1.free hq) upd_same pr⟩)
class Flat (α : Type) [i : Rep α] : Prop where
  fl : ∀ {K F F' v} {x : α}, i.rp K F v x → i.rp K F' v x
noncomputable instance : Flat Int := ⟨fun h => h⟩
noncomputable instance : Flat Bool := ⟨fun h => h⟩
noncomputable instance : Flat Unit := ⟨fun h => h⟩
noncomputable instance : Flat (List Nat) := ⟨fun h => h⟩
noncomputable def frz (F H : Hp) (ps : List Addr) : Hp := fun b => if b ∈ ps then H b else F b
theorem frz_in {F H : Hp} {ps : List Addr} {b : Addr} (h : b ∈ ps) : frz F H ps b = H b := if_pos h
theorem frz_out {F H : Hp} {ps : List Addr} {b : Addr} (h : b ∉ ps) : frz F H ps b = F b := if_neg h
theorem frz_le {F H : Hp} {ps : List Addr} (f : ∀ b ∈ ps, F b = none) : Same F (frz F H ps) := fun b u e => by
  rw [frz_out (fun hb => by rw [f b hb] at e; cases e)]; exact e
theorem frz_same {F H : Hp} {ps : List Addr} (s : Same F H) : Same (frz F H ps) H := fun b u e => by
  by_cases hb : b ∈ ps
  · rw [frz_in hb] at e; exact e
  · rw [frz_out hb] at e; exact s _ _ e
noncomputable def Froz (o : Own) {α : Type} [i : Rep α] (x : α) : Prop := ∀ {K : PySem.W.Frag} {F H : Hp} {v : V}, Same F H → o.ok K F H v → (∀ b ∈ o.fp, F b = none) → i.rp K (frz F H o.fp) v x
theorem frozL {a : Addr} {xs : List α} : Froz (ownL i a xs) xs := fun {K F H v} s ⟨e, vs, h, p⟩ f => ⟨a, vs, e, (frz_in (ps := [a]) (List.mem_singleton.mpr rfl)).trans h, Paired.mapP p fun _ _ q => i.mono (frz_le f) q⟩
theorem Lc.lendO {K : PySem.W.Frag} {B : Bs} {F H : Hp} {σ : L2.St} {k : Nat} {o : Own} {x : α} (L : Lc K B F H σ Γ) (hk : Γ[k]? = some (.own o)) (hx : Froz o x) :
    Lc K ⟨frz F H o.fp, H, fun _ => True⟩ (frz F H o.fp) H σ (Γ.set k (.val i x)) ∧ ∀ b ∈ o.fp, F b = none := by
  obtain ⟨v, ev, ok, f⟩ := slot_own L hk
  have f0 : ∀ b ∈ o.fp, F b = none := fun b hb => (f b hb).1
  refine ⟨⟨⟨Same.refl _, frz_same L.same, fun _ _ n => absurd trivial n, fun _ _ h _ => h, fun _ _ h => h⟩, by simp [L.len], fun q t hq => ?_, L.ap.put k rfl⟩, f0⟩
  rcases get_set_slot hq with ⟨e1, e2, rfl⟩ | ⟨e1, hq'⟩
  · subst e1
    rw [ev]
    exact ⟨v, rfl, hx L.same ok f0⟩
  · have old := L.ok q t hq'
    cases t with
    | no => trivial
    | val i x => obtain ⟨v, e2, r⟩ := old; exact ⟨v, e2, i.mono (frz_le f0) r⟩
    | own o2 =>
      obtain ⟨u, eu, ok2, f2⟩ := old
      exact ⟨u, eu, o2.stay (frz_le f0) (fun _ _ _ h => h) ok2, fun b hb => ⟨by rw [frz_out (fun hb2 => L.ap k q o o2 e1 hk hq' b hb2 hb)]; exact (f2 b hb).1, .inr trivial⟩⟩
theorem lend_back {F H F' H' : Hp} {ps : List Addr} (s : Same F H) (e : Ext (frz F H ps) H F' H') : Ext F H F H' := ⟨Same.refl F, s.trans e.hs, e.hh, fun _ _ h _ => h, fun _ z => z.elim⟩
theorem ev_lendO (k : Nat) {o : Own} {x : α} {y : β} [Flat β] (hx : Froz o x) (h : EV X (Γ.set k (.val i x)) e y) (hk : autoParam (Γ[k]? = some (.own o)) aRfl) : EV X Γ e y := fun B F H σ Q L q => by
  obtain ⟨L', fa⟩ := L.lendO hk hx
  exact h _ _ H σ Q L' fun v F' H' ex r => q v F H' (lend_back L.same ex) (Flat.fl r)
theorem et_lendO (k : Nat) {o : Own} {x : α} {y : Bool} (hx : Froz o x) (h : ET X (Γ.set k (.val i x)) e y) (hk : autoParam (Γ[k]? = some (.own o)) aRfl) : ET X Γ e y := fun B F H σ Q L q => by
  obtain ⟨L', fa⟩ := L.lendO hk hx
  exact h _ _ H σ Q L' fun F' H' ex => q F H' (lend_back L.same ex)
theorem en_lendO (k : Nat) {o : Own} {x : α} {ys : List β} [Flat β] (hx : Froz o x) (h : EN X (Γ.set k (.val i x)) e ys) (hk : autoParam (Γ[k]? = some (.own o)) aRfl) : EN X Γ e ys := fun B F H σ Q L q => by
  obtain ⟨L', fa⟩ := L.lendO hk hx
  exact h _ _ H σ Q L' fun a vs F' H' ex ha f2 h' pr => q a vs F H' (lend_back L.same ex) ha (L.same.free ha) h' (Paired.mapP pr fun _ _ z => Flat.fl z)
theorem en_lend (k : Nat) {ad : Addr} {xs : List α} {ys : List β} [Flat β] (h : EN X (Γ.set k (.val repList xs)) e ys) (hk : autoParam (Γ[k]? = some (.lst i ad xs)) aRfl) : EN X Γ e ys := en_lendO k frozL h hk
theorem ex_call {n : Str} {k : Nat} {ps : List Str} {S : Spec} {A : List Slot} {P : Ret → Prop} (G : Has X.prog X.w X.K X.mg X.base k n ps S) (hr : Room k X.A) (ha : EA X Γ (e :: es) A)
    (hS : ∀ P' R', (∀ r, P r → P' r) → S A P' R') (hg : autoParam (Gl X n) aRfl) (hd : autoParam ((n == ("__debug__" : Str)) = false) aDec)
    (he : autoParam (starEach (e :: es) X.env = (false, eval e X.env) :: starEach es X.env) aStar) (hpl : autoParam ((backTo pos (starEach es X.env)).any (·.1) = false) aPl) : EX X Γ (.Call (.Name n p) (e :: es) [] pos) P := fun B F H σ Q L q => by
  obtain ⟨f, fd, hm, hk, hb, G⟩ := G.ex
  refine WE.of (pe_call G hr hg hm hk hb .nil passL paW hd he hpl) (ha B F H σ _ L fun vs F1 H1 e1 r1 => ?_)
  rw [List.append_nil]
  exact ⟨F1, A, (L.step e1).same, r1.toO, r1.apart, hS _ _ fun r hr v F2 H2 e2 ok => q r v F2 H2 hr (e1.thenM e2 fun _ m => (r1.ma m).elim) (ok.imp fun b h => e1.hs.free (h.elim id fun m => (r1.ma m).elim))⟩
theorem ev_call {n : Str} {k : Nat} {ps : List Str} {S : Spec} {A : List Slot} {x : α} (G : Has X.prog X.w X.K X.mg X.base k n ps S) (hr : Room k X.A) (ha : EA X Γ (e :: es) A) (hS : ∀ P R, P (.val i x) → S A P R) (hg : autoParam (Gl X n) aRfl) (hd : autoParam ((n == ("__debug__" : Str)) = false) aDec)
    (he : autoParam (starEach (e :: es) X.env = (false, eval e X.env) :: starEach es X.env) aStar) (hpl : autoParam ((backTo pos (starEach es X.env)).any (·.1) = false) aPl) : EV X Γ (.Call (.Name n p) (e :: es) [] pos) x :=
  ev_of_ex (ex_call G hr ha (fun P' R' h => hS P' R' (h _ rfl)) hg hd he hpl)
theorem en_call {n : Str} {k : Nat} {ps : List Str} {S : Spec} {A : List Slot} {xs : List α} (G : Has X.prog X.w X.K X.mg X.base k n ps S) (hr : Room k X.A) (ha : EA X Γ (e :: es) A) (hS : ∀ P R, P (.new i xs) → S A P R) (hg : autoParam (Gl X n) aRfl) (hd : autoParam ((n == ("__debug__" : Str)) = false) aDec)
    (he : autoParam (starEach (e :: es) X.env = (false, eval e X.env) :: starEach es X.env) aStar) (hpl : autoParam ((backTo pos (starEach es X.env)).any (·.1) = false) aPl) : EN X Γ (.Call (.Name n p) (e :: es) [] pos) xs :=
  en_of_ex (ex_call G hr ha (fun P' R' h => hS P' R' (h _ rfl)) hg hd he hpl)
end
section
variable {P : Program} {w : World} {K : PySem.W.Frag} {mg : Str → Option Value} {base : Heap}
structure Df (K : PySem.W.Frag) (mg : Str → Option Value) (n : Str) (st : Stmt) (ps : List Str) : Prop where
  ex : ∃ f fd, Fun K n n st f fd ∧ Binds K fd ps [] ∧ mg n = some (.ref f)
theorem lc_start {F H : Hp} (s : Same F H) : ∀ {vs : List V} {A : List Slot} (r : VsOkO K F H vs A) (ap : Apart A) (n : Nat), Lc K ⟨F, H, MA A⟩ F H (vs.map some ++ List.replicate n none) (A ++ List.replicate n .no) := by
  intro vs A r ap n
  have key : ∀ {vs : List V} {A A0 : List Slot}, VsOkO K F H vs A → (∀ s ∈ A, s ∈ A0) → ∀ (k : Nat) t, (A ++ List.replicate n Slot.no)[k]? = some t → SlotOk K ⟨F, H, MA A0⟩ F H ((vs.map some ++ List.replicate n none)[k]?).join t := by
    intro vs A
    induction A generalizing vs with
    | nil =>
      intro A0 r _ k t h
      rw [List.nil_append, List.getElem?_replicate] at h
      split at h
      · cases h; exact trivial
      · cases h
    | cons a A ih =>
      intro A0 r hm k t h
      cases vs with
      | nil => cases a <;> exact r.elim
      | cons v vs =>
        cases a with
        | no => exact r.elim
        | own o =>
          cases k with
          | zero =>
            simp at h
            subst h
            exact ⟨v, rfl, r.1, fun b hb => ⟨r.2.1 b hb, .inr ⟨o, hm _ (List.mem_cons_self ..), hb⟩⟩⟩
          | succ k => exact ih r.2.2 (fun s hs => hm s (List.mem_cons_of_mem _ hs)) k t (by simpa using h)
        | val i x =>
          cases k with
          | zero =>
            simp at h
            subst h
            exact ⟨v, rfl, r.1⟩
          | succ k => exact ih r.2 (fun s hs => hm s (List.mem_cons_of_mem _ hs)) k t (by simpa using h)
  have inA : ∀ {k : Nat} {o : Own}, (A ++ List.replicate n Slot.no)[k]? = some (.own o) → A[k]? = some (.own o) := fun {k o} h => by
    by_cases hk : k < A.length
    · rw [List.getElem?_append_left hk] at h; exact h
    · rw [List.getElem?_append_right (by omega), List.getElem?_replicate] at h
      split at h <;> cases h
  exact ⟨⟨Same.refl _, s, fun _ _ _ h => h, fun _ _ h _ => h, fun _ _ h => h⟩, by simp [r.len], fun k t h => key r (fun _ h => h) k t h, fun x y o1 o2 hxy h1 h2 => ap x y o1 o2 hxy (inA h1) (inA h2)⟩
theorem Has.of {n : Str} {st : Stmt} {N ps : List Str} {k : Nat} {S : Spec} (D : Df K mg n st ps) (sc : FnScope N ps (defScope st)) (len : ∀ A Q R, S A Q R → A.length = ps.length)
    (body : ∀ (f : Addr) (cdv : Value) (A : Around) (outer : List Env) (s : Shared) (H : Hp) (E : XK), Room k (A.deeper (envOfC n (defScope st) s.heap.objs.size f cdv)) → ∀ Γ Q R, S Γ Q R →
      ST (cxOf (L2.CX P w) P w K mg base N n (defScope st) f cdv A outer s H E).nox (defBody st) (Γ ++ List.replicate (N.length - ps.length) .no) (fin Q)) :
    Has P w K mg base (k + 1) n ps S := by
  obtain ⟨f, fd, F, hb, hm⟩ := D.ex
  refine ⟨f, fd, hm, F.kp, hb, F.okX sc (fun vs H Q E ⟨F0, A, s, r, ap, h⟩ => ?_) (fun cdv A outer s H vs Q E hr h => ?_)⟩
  · rw [r.len]; exact len _ _ _ h
  · obtain ⟨F0, A0, sm, r, ap, h⟩ := h
    refine ⟨_, psW.nox, ?_⟩
    have hl := len _ _ _ h
    have L0 := lc_start (K := K) sm r ap (N.length - ps.length)
    have L1 : Lc K ⟨F0, H, MA A0⟩ F0 H (L2.start N vs) (A0 ++ List.replicate (N.length - ps.length) .no) := by
      unfold L2.start
      rw [show vs.length = ps.length from r.len.trans hl]
      exact L0
    refine body f cdv A outer s H E hr A0 _ _ h ⟨F0, H, MA A0⟩ F0 H _ _ L1 ⟨fun F' H' σ' Γ' _ hq L => ?_, fun r v F' H' hq ex ok => hq v F' H' ex ok, fun _ _ _ _ _ z => z.elim, fun _ _ _ _ _ z => z.elim, fun _ _ _ _ _ _ _ _ z => z.elim⟩
    exact hq .non F' H' L.ext rfl
end
end Tw
namespace Tw
open PySem PySem.Spec PyProof.Rows L2 TL
class Dat (α : Type) [i : Rep α] [DecidableEq α] where
  en : α → PyData
  ok : α → Prop
  dep : Nat
  dp : ∀ {K F v x}, i.rp K F v x → Dp K F v (en x)
  lay : ∀ {x}, ok x → (en x).canLay0 = true
  deep : ∀ x, (en x).depth ≤ dep
  eqv : ∀ x y, PyData.eqv (en x) (en y) = decide (x = y)
noncomputable instance : Dat Int := ⟨.int, fun _ => True, 0, fun {_ _ v x} h => by obtain rfl : v = .int x := h; exact .int _, fun _ => by rw [PyData.canLay0], fun _ => by simp [PyData.depth], fun x y => by simp [PyData.eqv, Bool.beq_eq_decide_eq]⟩
noncomputable instance : Dat Bool := ⟨.bool, fun _ => True, 0, fun {_ _ v x} h => by obtain rfl : v = .bl x := h; exact .bl _, fun _ => by rw [PyData.canLay0], fun _ => by simp [PyData.depth], fun x y => by simp [PyData.eqv, Bool.beq_eq_decide_eq]⟩
noncomputable def TxOk (x : Tx) : Prop := ∀ c ∈ x, c < 1114112
noncomputable instance : Dat (List Nat) := ⟨fun x => .str (sx x), TxOk, 0, fun {_ _ v x} h => by obtain rfl : v = .str (sx x) := h; exact .str _, fun {x} h => by
    rw [PyData.canLay0]
    show (sx x).cps.all (· < 0x110000) = true
    rw [Array.all_eq_true']
    intro c hc
    exact decide_eq_true (h c (by simpa [sx] using hc)), fun _ => by simp [PyData.depth], fun x y => by
    rw [PyData.eqv, Bool.beq_eq_decide_eq]
    by_cases h : x = y
    · subst h; rw [decide_eq_true rfl, decide_eq_true rfl]
    · rw [decide_eq_false h, decide_eq_false fun z => h (sx_inj z)]⟩
section
variable {α β : Type} [i : Rep α] [DecidableEq α] [d : Dat α] [j : Rep β] [DecidableEq β] [f : Dat β]
theorem dpAll {K : PySem.W.Frag} {F : Hp} : ∀ {vs : List V} {xs : List α}, Paired (fun u x => i.rp K F u x) vs xs → DpAll K F vs (xs.map d.en)
  | _, _, .nil => .nil
  | _, _, .cons r t => .cons (d.dp r) (dpAll t)
theorem layAll : ∀ {xs : List α}, (∀ x ∈ xs, d.ok x) → PyData.canLayAll0 (xs.map d.en) = true
  | [], _ => by rw [List.map_nil, PyData.canLayAll0]
  | x :: xs, h => by
    rw [List.map_cons, PyData.canLayAll0, d.lay (h x (List.mem_cons_self ..)), layAll fun y hy => h y (List.mem_cons_of_mem _ hy)]
    rfl
theorem deepAll : ∀ xs : List α, PyData.depthAll (xs.map d.en) ≤ d.dep
  | [] => by rw [List.map_nil, PyData.depthAll]; exact Nat.zero_le _
  | x :: xs => by rw [List.map_cons, PyData.depthAll]; exact Nat.max_le.mpr ⟨d.deep x, deepAll xs⟩
theorem eqvAll : ∀ xs ys : List α, PyData.eqvAll (xs.map d.en) (ys.map d.en) = decide (xs = ys)
  | [], [] => by rw [List.map_nil, PyData.eqvAll]; rfl
  | x :: xs, [] => by rw [List.map_cons, List.map_nil, PyData.eqvAll]; rfl
  | [], y :: ys => by rw [List.map_cons, List.map_nil, PyData.eqvAll]; rfl
  | x :: xs, y :: ys => by
    rw [List.map_cons, List.map_cons, PyData.eqvAll, d.eqv, eqvAll xs ys, ← Bool.decide_and]
    exact decide_eq_decide.mpr (by simp)
noncomputable instance : Dat (List α) := ⟨fun xs => .list (xs.map d.en), fun xs => ∀ x ∈ xs, d.ok x, d.dep + 1, fun {K F v xs} ⟨a, vs, e, h, pr⟩ => by subst e; exact .lst (.inl (.inl h)) (dpAll pr), fun h => by rw [PyData.canLay0]; exact layAll h,
  fun xs => by rw [PyData.depth]; exact Nat.succ_le_succ (deepAll xs), fun xs ys => by rw [PyData.eqv]; exact eqvAll xs ys⟩
noncomputable instance : DecidableEq (Tup α) := fun x y => decidable_of_iff (x.l = y.l) (by cases x; cases y; simp)
noncomputable instance : Dat (Tup α) := ⟨fun xs => .tuple (xs.l.map d.en), fun xs => ∀ x ∈ xs.l, d.ok x, d.dep + 1, fun {K F v xs} ⟨a, vs, e, h, pr⟩ => by subst e; exact .tup (.inl (.inl h)) (dpAll pr), fun h => by rw [PyData.canLay0]; exact layAll h,
  fun xs => by rw [PyData.depth]; exact Nat.succ_le_succ (deepAll xs.l), fun xs ys => by
    rw [PyData.eqv, eqvAll]
    exact decide_eq_decide.mpr (by cases xs; cases ys; simp)⟩
noncomputable instance : Dat (α × β) := ⟨fun x => .tuple [d.en x.1, f.en x.2], fun x => d.ok x.1 ∧ f.ok x.2, max d.dep f.dep + 1, fun {K F v x} ⟨a, u, w, e, h, r1, r2⟩ => by subst e; exact .tup (.inl (.inl h)) (.cons (d.dp r1) (.cons (f.dp r2) .nil)),
  fun {x} h => by rw [PyData.canLay0, PyData.canLayAll0, PyData.canLayAll0, PyData.canLayAll0, d.lay h.1, f.lay h.2]; rfl,
  fun x => by
    rw [PyData.depth, PyData.depthAll, PyData.depthAll, PyData.depthAll]
    have h1 := d.deep x.1
    have h2 := f.deep x.2
    omega, fun x y => by
    rw [PyData.eqv, PyData.eqvAll, PyData.eqvAll, PyData.eqvAll, d.eqv, f.eqv, Bool.and_true, ← Bool.decide_and]
    exact decide_eq_decide.mpr (by cases x; cases y; simp)⟩
theorem shp {x : α} (h : d.ok x) (h2 : d.dep ≤ 64) : SeqAt.shaped (d.en x) = true := by
  unfold SeqAt.shaped
  rw [d.lay h, decide_eq_true (Nat.le_trans (d.deep x) h2)]
  rfl
end
section
variable {α : Type} [i : Rep α] [DecidableEq α] [d : Dat α] {X : Cx}
theorem dp_mono {K : PySem.W.Frag} {F H : Hp} {v : V} {x : α} (s : Same F H) (r : i.rp K F v x) : Dp K H v (d.en x) := d.dp (i.mono s r)
theorem o_eqD {x y : α} {k : Nat} (hr : Room k X.A) (hx : d.ok x) (hy : d.ok y) (h2 : autoParam (d.dep ≤ 64) aDec) : OB X (compareOp .Eq) x y (decide (x = y)) := ob_flat (op_eqD hr.units) fun F H v u Q s r1 r2 q =>
  ⟨d.en x, d.en y, dp_mono s r1, dp_mono s r2, shp hx h2, shp hy h2, q _ (by rw [d.eqv]; rfl)⟩
theorem o_neD {x y : α} {k : Nat} (hr : Room k X.A) (hx : d.ok x) (hy : d.ok y) (h2 : autoParam (d.dep ≤ 64) aDec) : OB X (compareOp .NotEq) x y (!decide (x = y)) := ob_flat (op_neD hr.units) fun F H v u Q s r1 r2 q =>
  ⟨d.en x, d.en y, dp_mono s r1, dp_mono s r2, shp hx h2, shp hy h2, q _ (by rw [d.eqv]; rfl)⟩
end
class Ty (α : Type) [i : Rep α] where
  ty : String
  is : ∀ {K F H v} {x : α}, Same F H → i.rp K F v x → TyX K H v (.type ty)
noncomputable instance : Ty Int := ⟨"int", fun {_ _ _ v x} _ h => by obtain rfl : v = .int x := h; exact .base (.int _)⟩
noncomputable instance : Ty Bool := ⟨"bool", fun {_ _ _ v x} _ h => by obtain rfl : v = .bl x := h; exact .base (.bl _)⟩
noncomputable instance : Ty (List Nat) := ⟨"str", fun {_ _ _ v x} _ h => by obtain rfl : v = .str (sx x) := h; exact .base (.str _)⟩
noncomputable instance {α : Type} [i : Rep α] : Ty (List α) := ⟨"list", fun {_ _ _ v x} s h => by obtain ⟨a, vs, rfl, h, _⟩ := h; exact .base (.lst (s _ _ h))⟩
noncomputable instance {α : Type} [i : Rep α] : Ty (Tup α) := ⟨"tuple", fun {_ _ _ v x} s h => by obtain ⟨a, vs, rfl, h, _⟩ := h; exact .base (.tup (s _ _ h))⟩
noncomputable instance {α β : Type} [i : Rep α] [j : Rep β] : Ty (α × β) := ⟨"tuple", fun {_ _ _ v x} s h => by obtain ⟨a, u, w, rfl, h, _⟩ := h; exact .base (.tup (s _ _ h))⟩
section
variable {X : Cx} {Γ : List Slot} {α β γ : Type} {i : Rep α} {j : Rep β} {l : Rep γ} {pos p p2 : Pos} {e a b c elt tg it : Expr} {es : List Expr} {E : SE} {rest body : List Stmt}
noncomputable def Le (Γ Γ' : List Slot) : Prop := Γ.length = Γ'.length ∧ ∀ (k : Nat) s, Γ'[k]? = some s → s = .no ∨ Γ[k]? = some s
theorem Le.refl : Le Γ Γ := ⟨rfl, fun _ _ h => .inr h⟩
theorem le_nil : Le [] [] := ⟨rfl, fun _ _ h => .inr h⟩
theorem le_cons {s : Slot} {Γ Γ' : List Slot} (h : Le Γ Γ') : Le (s :: Γ) (s :: Γ') := ⟨by simp [h.1], fun k t e => by
  cases k with
  | zero => exact .inr e
  | succ k => exact h.2 k t (by simpa using e)⟩
theorem le_no {s : Slot} {Γ Γ' : List Slot} (h : Le Γ Γ') : Le (s :: Γ) (.no :: Γ') := ⟨by simp [h.1], fun k t e => by
  cases k with
  | zero => simp at e; exact .inl e.symm
  | succ k => exact h.2 k t (by simpa using e)⟩
theorem Le.trans {Γ Γ' Γ'' : List Slot} (h : Le Γ Γ') (h2 : Le Γ' Γ'') : Le Γ Γ'' := ⟨h.1.trans h2.1, fun k s e => by
  rcases h2.2 k s e with z | z
  · exact .inl z
  · exact h.2 k s z⟩
theorem Lc.le {K : PySem.W.Frag} {B : Bs} {F H : Hp} {σ : L2.St} {Γ Γ' : List Slot} (L : Lc K B F H σ Γ) (h : Le Γ Γ') : Lc K B F H σ Γ' :=
  ⟨L.ext, L.len.trans h.1, fun k s e => by
    rcases h.2 k s e with rfl | e
    · trivial
    · exact L.ok k s e, fun x y o1 o2 hxy h1 h2 => by
    rcases h.2 x _ h1 with z | h1
    · cases z
    rcases h.2 y _ h2 with z | h2
    · cases z
    exact L.ap x y o1 o2 hxy h1 h2⟩
theorem st_le {sts : List Stmt} {Γ Γ' : List Slot} (h : Le Γ Γ') (hs : ST X sts Γ' E) : ST X sts Γ E := fun B F H σ D L ed => hs B F H σ D (L.le h) ed
end
noncomputable def lawS : Spec := fun A P _ => ∃ s : Scr, A = [vl s] ∧ s.l.length ≤ 63 ∧ P (rv true)
theorem hCX0 (P : Program) (w : World) (H : Hp) (s : Shared) (e : Value) (s' : Shared) : L2.CX P w [] H s (fun _ _ _ => False) e s' → False := fun ⟨_, _, _, _, _, _, _, _, _, _, _, _, z⟩ => z
theorem law_sp (K : PySem.W.Frag) (H : Hp) (a : Addr) (ns : List Int) (hl : ns.length ≤ 63) (hS : SqL K H a (ns.map V.int)) : spOf K lawS [.ref a] H (fun v _ => v = .bl true) fun _ _ _ => False := by
  refine ⟨H, [vl (Scr.mk ns)], Same.refl H, ⟨⟨a, rfl, hS⟩, trivial⟩, fun i j o1 o2 _ h1 _ => ?_, ⟨ns⟩, rfl, hl, fun v F' H' _ ok => ok⟩
  have := List.mem_of_getElem? h1
  rw [List.mem_singleton] at this
  cases this
section
variable {P : Program} {w : World} {K : PySem.W.Frag} {mg : Str → Option Value} {base : Heap}
noncomputable def BodyOk (P : Program) (w : World) (K : PySem.W.Frag) (mg : Str → Option Value) (base : Heap) (k : Nat) (n : Str) (st : Stmt) (N ps : List Str) (S : Spec) : Prop :=
  ∀ (f : Addr) (cdv : Value) (A : Around) (outer : List Env) (s : Shared) (H : Hp) (E : XK), Room k (A.deeper (envOfC n (defScope st) s.heap.objs.size f cdv)) → ∀ Γ Q R, S Γ Q R →
      ST (cxOf (L2.CX P w) P w K mg base N n (defScope st) f cdv A outer s H E).nox (defBody st) (Γ ++ List.replicate (N.length - ps.length) .no) (fin Q)
theorem law_fn {f : Addr} {fd : FuncData} {st : Stmt} {N : List Str} {x : Str} {k : Nat} (F : Fun K "law" "law" st f fd) (sc : FnScope N [x] (defScope st)) (body : BodyOk P w K mg base k "law" st N [x] lawS) :
    FnOk P w K mg base (L2.CX P w) (k + 1) f fd [x] (spOf K lawS) := by
  refine F.okX sc (fun vs H Q E ⟨F0, A, s, r, ap, h⟩ => ?_) (fun cdv A outer s H vs Q E hr h => ?_)
  · obtain ⟨s, rfl, _⟩ := h
    rw [r.len]; rfl
  · obtain ⟨F0, A0, sm, r, ap, h⟩ := h
    refine ⟨_, psW.nox, ?_⟩
    have hl : A0.length = 1 := by obtain ⟨s, rfl, _⟩ := h; rfl
    have L0 := lc_start (K := K) sm r ap (N.length - 1)
    have L1 : Lc K ⟨F0, H, MA A0⟩ F0 H (L2.start N vs) (A0 ++ List.replicate (N.length - 1) .no) := by
      unfold L2.start
      rw [show vs.length = 1 from r.len.trans hl]
      exact L0
    refine body f cdv A outer s H E hr A0 _ _ h ⟨F0, H, MA A0⟩ F0 H _ _ L1 ⟨fun F' H' σ' Γ' _ hq L => ?_, fun r v F' H' hq ex ok => hq v F' H' ex ok, fun _ _ _ _ _ z => z.elim, fun _ _ _ _ _ z => z.elim, fun _ _ _ _ _ _ _ _ z => z.elim⟩
    exact hq .non F' H' L.ext rfl
end
theorem ev_gintE {X : Cx} {Γ : List Slot} {pos : Pos} {n : Str} {z : Int} (hm : ∃ t, X.mg n = some (.int z t)) (hg : autoParam (Gl X n) aRfl) (hd : autoParam ((n == ("__debug__" : Str)) = false) aDec) : EV X Γ (.Name n pos) z := by
  obtain ⟨t, hm⟩ := hm
  exact ev_gint hm hg hd
theorem ev_gstrE {X : Cx} {Γ : List Slot} {pos : Pos} {n : Str} {s : String} (hm : ∃ t, X.mg n = some (.str (Str.ofString s) t)) (hg : autoParam (Gl X n) aRfl) (hd : autoParam ((n == ("__debug__" : Str)) = false) aDec) : EV X Γ (.Name n pos) (tx s) := by
  obtain ⟨t, hm⟩ := hm
  exact ev_gstr s hm hg hd
theorem pgn {X : Cx} (k : Nat) {n : Str} {pos : Pos} (hN : X.N.Nodup) (hi : autoParam (X.N[k]? = some n) aRfl) (hx : autoParam (L2.Loc X.env.scope n) aLoc)
    (hf : autoParam (X.fn n = true ∨ X.env.scope.names.lookup n = some .local) Tw.aFn) : PG X (.Name n pos) (gName k) := pg_name hN hi hx hf
theorem Le.set {Γ Γ' : List Slot} (h : Le Γ Γ') (k : Nat) (s : Slot) : Le (Γ.set k s) (Γ'.set k s) := ⟨by simp [h.1], fun q t e => by
  rcases get_set_slot e with ⟨e1, e2, rfl⟩ | ⟨e1, e⟩
  · refine .inr ?_
    subst e1
    rw [List.getElem?_set_self (by rw [h.1]; exact e2)]
  · rcases h.2 q t e with z | z
    · exact .inl z
    · exact .inr (by rw [List.getElem?_set_ne e1]; exact z)⟩
theorem en_nil {X : Cx} {Γ : List Slot} {pos : Pos} (α : Type) [i : Rep α] : EN X Γ (.List [] pos) ([] : List α) := en_lst es_nil
theorem rng_get0 {n k : Nat} {x : Int} (h : (rng 0 n)[k]? = some x) : k < n ∧ x = (k : Int) := by
  obtain ⟨h1, h2⟩ := rng_get h
  exact ⟨h1, by rw [h2]; omega⟩
theorem rng_mem {lo : Int} {n : Nat} {x : Int} (h : x ∈ rng lo n) : ∃ k : Nat, k < n ∧ x = lo + k := by
  unfold rng at h
  obtain ⟨k, hk, rfl⟩ := List.mem_map.mp h
  exact ⟨k, List.mem_range.mp hk, rfl⟩
theorem joinOnes {A : Type} (xs : List A) (f : A → Nat) : joinL [] (xs.map fun x => ([f x] : Tx)) = xs.map f := by
  rw [show (fun x => ([f x] : Tx)) = (fun c => ([c] : Tx)) ∘ f from rfl, ← List.map_map, joinL_one]
theorem take_snoc {A : Type} {xs : List A} {k : Nat} {x : A} (h : xs[k]? = some x) : xs.take (k + 1) = xs.take k ++ [x] := by rw [List.take_add_one, h]; rfl
theorem lt_line {n : Nat} (h : n ≤ 1000) : n < sizeLine := Nat.lt_of_le_of_lt h (by decide)
theorem sum_ones {A : Type} (xs : List A) (f : A → Nat) : ((xs.map fun x => ([f x] : Tx)).map (·.length)).sum = xs.length := by
  rw [List.map_map, show (List.length ∘ fun x => ([f x] : Tx)) = fun _ => 1 from rfl, List.map_const', List.sum_replicate_nat]; omega
end Tw
namespace Tw
open PySem PySem.Spec PyProof.Rows L2 TL
section
variable {X : Cx} {Γ : List Slot} {α β γ δ : Type} {i : Rep α} {j : Rep β} {l : Rep γ} {m : Rep δ} {pos p p2 : Pos} {e a b c d elt tg it : Expr} {es : List Expr} {E : SE} {rest body : List Stmt}
theorem ev_all {bs : List Bool} (hm : X.mg "all" = none) (h : EV X Γ e bs) (hc : autoParam (X.calm = true) aRfl) (hg : autoParam (Gl X "all") aRfl) (hs : autoParam (starEach [e] X.env = (false, eval e X.env) :: starEach [] X.env) aStar) (hpl : autoParam ((backTo pos (starEach [] X.env)).any (·.1) = false) aPl) :
    EV X Γ (.Call (.Name "all" p) [e] [] pos) (bs.all id) :=
  ev_callB1 (cr_all hc) hm (by decide +kernel) h (fun F H v Q s r q => by
    obtain ⟨ad, vs, rfl, ha, pr⟩ := r
    exact ⟨ad, bs, rfl, by rw [← Rps.bls pr]; exact sq_of s ha, q _ F H (Ext.refl s) rfl⟩) hg (by decide) (by decide) hs hpl
theorem pg2 (k1 k2 : Nat) {n1 n2 : Str} {q1 q2 tp : Pos} {kk} (h1 : PG X (.Name n1 q1) (gName k1)) (h2 : PG X (.Name n2 q2) (gName k2)) (hc : autoParam (X.calm = true) aRfl)
    (a3 : autoParam ((assignEach [.Name n1 q1, .Name n2 q2] X.env).map (·.2) = assign (.Name n1 q1) X.env :: (assignEach [.Name n2 q2] X.env).map (·.2)) aRfl)
    (a4 : autoParam ((assignEach [.Name n2 q2] X.env).map (·.2) = assign (.Name n2 q2) X.env :: (assignEach [] X.env).map (·.2)) aRfl)
    (hn : autoParam ((assignEach [.Name n1 q1, .Name n2 q2] X.env).length = 2) aRfl) (hst : autoParam ((assignEach [.Name n1 q1, .Name n2 q2] X.env).findIdx? (·.1) = none) aRfl) :
    PG X (.Tuple [.Name n1 q1, .Name n2 q2] kk tp) (gTup X.K 2 (gCons (gName k1) (gCons (gName k2) gNil))) := pg_tup hc (pgs_cons h1 (pgs_cons h2 pgs_nil a4) a3) hn hst
structure Thing where
  u : Unit
noncomputable instance repThing : Rep Thing := ⟨fun _ _ _ _ => True, fun _ h => h⟩
end
end Tw
namespace Tw
open PySem PySem.Spec PyProof.Rows L2 TL
structure XCls (K : PySem.W.Frag) (n : Str) (C : Addr) : Prop where
  ns : PySem.W.nsIn K mainGlobals n = some (some (.ref C))
  kp : PySem.W.keepIn K (.ref C) = true
  ty : PySem.W.typeIn K (.ref C) = some (.type "type")
  is : ExcC K C
noncomputable def XC (K : PySem.W.Frag) (mg : Str → Option Value) (n : Str) : Prop := ∃ C, XCls K n C ∧ mg n = some (.ref C)
noncomputable def XPlain (K : PySem.W.Frag) (n : Str) : Prop := ∀ C, PySem.W.nsIn K mainGlobals n = some (some (.ref C)) → PySem.W.excIn K C [.type "ValueError", .type "Exception", .type "BaseException", .type "object"] "ValueError.__new__" = true
noncomputable def XSub (K : PySem.W.Frag) (n m : Str) (b : Bool) : Prop := ∀ C D, PySem.W.nsIn K mainGlobals n = some (some (.ref C)) → PySem.W.nsIn K mainGlobals m = some (some (.ref D)) → PySem.W.exmOne K (.ref C) (.ref D) = some b ∧ PySem.W.kitOne K (.ref C) (.ref D) = some b
noncomputable def XSubT (K : PySem.W.Frag) (n : Str) (T : String) (b : Bool) : Prop := ∀ C, PySem.W.nsIn K mainGlobals n = some (some (.ref C)) → PySem.W.kitOne K (.ref C) (.type T) = some b
noncomputable def XNone (K : PySem.W.Frag) (t : String) (m : Str) : Prop := ∀ D, PySem.W.nsIn K mainGlobals m = some (some (.ref D)) → PySem.W.kitOne K (.type t) (.ref D) = some false
theorem ns_one {K : PySem.W.Frag} {n : Str} {C D : Addr} (h1 : PySem.W.nsIn K mainGlobals n = some (some (.ref C))) (h2 : PySem.W.nsIn K mainGlobals n = some (some (.ref D))) : D = C := by
  rw [h1] at h2
  cases h2
  rfl
theorem kitOf {K : PySem.W.Frag} {t : Value} {D : Addr} {b : Bool} (ht : PySem.W.typeIn K (.ref D) = some (.type "type")) (hd : PySem.W.hasDictIn K D = true) (h : PySem.W.subIn K t (.ref D) = some b) (hb : t = .ref D → b = true) : PySem.W.kitOne K t (.ref D) = some b := by
  unfold PySem.W.kitOne
  split
  · rename_i e
    rw [hb (beq_iff_eq.mp e)]
  · obtain ⟨cd, hc, _⟩ := PySem.W.any_some hd
    show (if ((PySem.W.clsIn K D).isSome && PySem.W.typeIn K (.ref D) == some (.type "type")) = true then PySem.W.subIn K t (.ref D) else none) = some b
    rw [if_pos (by rw [hc, ht]; rfl)]
    exact h
theorem XPlain.mk {K : PySem.W.Frag} {n : Str} {C : Addr} (a : PySem.W.nsIn K mainGlobals n = some (some (.ref C))) (h : PySem.W.excIn K C [.type "ValueError", .type "Exception", .type "BaseException", .type "object"] "ValueError.__new__" = true) : XPlain K n := fun D e => ns_one a e ▸ h
theorem XSub.mk {K : PySem.W.Frag} {n m : Str} {b : Bool} {C D : Addr} (a1 : PySem.W.nsIn K mainGlobals n = some (some (.ref C))) (a2 : PySem.W.nsIn K mainGlobals m = some (some (.ref D))) (ht : PySem.W.typeIn K (.ref D) = some (.type "type")) (hs : PySem.W.subIn K (.ref D) (.type "BaseException") = some true) (hd : PySem.W.hasDictIn K D = true)
    (h : PySem.W.subIn K (.ref C) (.ref D) = some b) (hb : C = D → b = true) : XSub K n m b := fun C' D' e1 e2 => by
  obtain rfl := ns_one a1 e1
  obtain rfl := ns_one a2 e2
  exact ⟨PySem.W.exm_ref hs hd ht h, kitOf ht hd h fun e => hb (Value.ref.inj e)⟩
theorem XSubT.mk {K : PySem.W.Frag} {n : Str} {T : String} {b : Bool} {C : Addr} (hm : PySem.W.kitMeta T = true) (a : PySem.W.nsIn K mainGlobals n = some (some (.ref C))) (h : PySem.W.subIn K (.ref C) (.type T) = some b) : XSubT K n T b := fun D e => by
  obtain rfl := ns_one a e
  show (if PySem.W.kitMeta T = true then PySem.W.subIn K (.ref D) (.type T) else none) = some b
  rw [if_pos hm]
  exact h
theorem XNone.mk {K : PySem.W.Frag} {t : String} {m : Str} {D : Addr} (a : PySem.W.nsIn K mainGlobals m = some (some (.ref D))) (ht : PySem.W.typeIn K (.ref D) = some (.type "type")) (hd : PySem.W.hasDictIn K D = true) (h : PySem.W.subIn K (.type t) (.ref D) = some false) : XNone K t m := fun D' e => by
  obtain rfl := ns_one a e
  exact kitOf ht hd h fun z => nomatch z
noncomputable def ErrO (cls : Value) (d : Option Addr) (a : Addr) : HO := .ext fun h => ∃ (oe : Obj) (vs : Array Value), h.get? a = some oe ∧ Zc cls d oe ∧ oe.data = .fields vs
structure Err where
  cls : Str
structure ErrW (α : Type) where
  cls : Str
  fld : Str
  why : α
noncomputable def ErrAt (K : PySem.W.Frag) (F : Hp) (v : V) (n : Str) (d : Option Addr) : Prop := ∃ a C, v = .ref a ∧ F a = some (ErrO (.ref C) d a) ∧ PySem.W.nsIn K mainGlobals n = some (some (.ref C))
noncomputable instance repErr : Rep Err := ⟨fun K F v x => ErrAt K F v x.cls none, fun s ⟨a, C, e, h, n⟩ => ⟨a, C, e, s _ _ h, n⟩⟩
noncomputable instance repErrW {α : Type} [i : Rep α] : Rep (ErrW α) := ⟨fun K F v x => ∃ dx w, ErrAt K F v x.cls (some dx) ∧ F dx = some (.xd [(x.fld, w)]) ∧ i.rp K F w x.why,
  fun s ⟨dx, w, ⟨a, C, e, h, n⟩, h2, r⟩ => ⟨dx, w, ⟨a, C, e, s _ _ h, n⟩, s _ _ h2, i.mono s r⟩⟩
class IsErr (α : Type) [i : Rep α] where
  cls : α → Str
  at_ : ∀ {K F v x}, i.rp K F v x → ∃ d, ErrAt K F v (cls x) d ∧ ∀ dx, d = some dx → ∃ fs, F dx = some (.xd fs)
noncomputable instance : IsErr Err := ⟨fun x => x.cls, fun h => ⟨none, h, fun _ z => nomatch z⟩⟩
noncomputable instance {α : Type} [i : Rep α] : IsErr (ErrW α) := ⟨fun x => x.cls, fun ⟨dx, w, h, h2, _⟩ => ⟨some dx, h, fun d e => by cases e; exact ⟨_, h2⟩⟩⟩
end Tw
namespace Tw
open PySem PySem.Spec PyProof.Rows L2 TL
section
variable {X : Cx} {Γ : List Slot} {α β γ : Type} {i : Rep α} {j : Rep β} {l : Rep γ} {pos p p2 : Pos} {e a b c elt tg it : Expr} {es : List Expr} {E : SE} {rest body : List Stmt}
noncomputable def XFld (K : PySem.W.Frag) (n f : Str) : Prop := ∀ C, PySem.W.nsIn K mainGlobals n = some (some (.ref C)) → PySem.W.findIn K (.ref C) f = some none
class NonN (α : Type) [i : Rep α] : Prop where
  nn : ∀ {K F v} {x : α}, i.rp K F v x → v ≠ .non
noncomputable instance : NonN Int := ⟨fun {_ _ v x} h z => by obtain rfl : v = .int x := h; cases z⟩
noncomputable instance : NonN Bool := ⟨fun {_ _ v x} h z => by obtain rfl : v = .bl x := h; cases z⟩
noncomputable instance : NonN (List Nat) := ⟨fun {_ _ v x} h z => by obtain rfl : v = .str (sx x) := h; cases z⟩
noncomputable instance {α : Type} [i : Rep α] : NonN (List α) := ⟨fun h z => by obtain ⟨a, vs, rfl, _⟩ := h; cases z⟩
noncomputable instance {α : Type} [i : Rep α] : NonN (Tup α) := ⟨fun h z => by obtain ⟨a, vs, rfl, _⟩ := h; cases z⟩
noncomputable instance {α β : Type} [i : Rep α] [j : Rep β] : NonN (α × β) := ⟨fun h z => by obtain ⟨a, u, w, rfl, _⟩ := h; cases z⟩
noncomputable instance : NonN Err := ⟨fun h z => by obtain ⟨a, u, rfl, _⟩ := h; cases z⟩
noncomputable instance {α : Type} [i : Rep α] : NonN (ErrW α) := ⟨fun h z => by obtain ⟨a, u, ⟨_, _, rfl, _⟩, _⟩ := h; cases z⟩
theorem o_isNo {x : α} [NonN α] : OB X (compareOp .Is) x () false := ob_flat op_isN fun F H v u Q s r1 r2 q => ⟨r2, by
  rw [decide_eq_false (NonN.nn r1)]
  exact q _ rfl⟩
theorem o_notNo {x : α} [NonN α] : OB X (compareOp .IsNot) x () true := ob_flat op_notN fun F H v u Q s r1 r2 q => ⟨r2, by
  rw [decide_eq_false (NonN.nn r1)]
  exact q _ rfl⟩
theorem o_isU : OB X (compareOp .Is) () () true := ob_flat op_isN fun F H v u Q s r1 r2 q => ⟨r2, by
  obtain rfl : v = .non := r1
  exact q _ rfl⟩
theorem o_notU : OB X (compareOp .IsNot) () () false := ob_flat op_notN fun F H v u Q s r1 r2 q => ⟨r2, by
  obtain rfl : v = .non := r1
  exact q _ rfl⟩
theorem o_isO {x : Option α} [NonN α] : OB X (compareOp .Is) x () x.isNone := by
  cases x with
  | none => exact fun F H v u Q s r1 r2 => o_isU F H v u Q s r1 r2
  | some x => exact fun F H v u Q s r1 r2 => o_isNo (x := x) F H v u Q s r1 r2
theorem o_notO {x : Option α} [NonN α] : OB X (compareOp .IsNot) x () x.isSome := by
  cases x with
  | none => exact fun F H v u Q s r1 r2 => o_notU F H v u Q s r1 r2
  | some x => exact fun F H v u Q s r1 r2 => o_notNo (x := x) F H v u Q s r1 r2
theorem ev_un {x : α} (h : EV X Γ e (some x)) : EV X Γ e x := fun B F H σ Q L q => h B F H σ Q L fun v F' H' ex r => q v F' H' ex r
noncomputable def EXX (X : Cx) (Γ : List Slot) (e : Expr) (P : Ret → Prop) (R : Exn → Prop) : Prop :=
  ∀ B F H σ Q, Lc X.K B F H σ Γ → (∀ r v F' H', P r → Ext F H F' H' → ROk X.K (Nw H) F' H' v r → Q v H') → (∀ x u d F' H', R x → Ext F H F' H' → XOk X.K (Nw H) F' H' u d x → XW X u d σ H') → WE X e σ H Q
theorem exx_call {n : Str} {k : Nat} {ps : List Str} {S : Spec} {A : List Slot} {P : Ret → Prop} {R : Exn → Prop} (G : Has X.prog X.w X.K X.mg X.base k n ps S) (hr : Room k X.A) (ha : EA X Γ (e :: es) A)
    (hS : ∀ P' R', (∀ r, P r → P' r) → (∀ x, R x → R' x) → S A P' R') (hg : autoParam (Gl X n) aRfl) (hd : autoParam ((n == ("__debug__" : Str)) = false) aDec)
    (he : autoParam (starEach (e :: es) X.env = (false, eval e X.env) :: starEach es X.env) aStar) (hpl : autoParam ((backTo pos (starEach es X.env)).any (·.1) = false) aPl) : EXX X Γ (.Call (.Name n p) (e :: es) [] pos) P R := fun B F H σ Q L q z => by
  obtain ⟨f, fd, hm, hk, hb, G⟩ := G.ex
  refine WE.of (pe_callS (E := fun σ cls d H => XW X cls d σ H) G hr hg hm hk hb (fun σ => passAt takesW σ) paW hd he hpl) (ha B F H σ _ L fun vs F1 H1 e1 r1 => ?_)
  exact ⟨F1, A, (L.step e1).same, r1.toO, r1.apart, hS _ _ (fun r hr v F2 H2 e2 ok => q r v F2 H2 hr (e1.thenM e2 fun _ m => (r1.ma m).elim) (ok.imp fun b h => e1.hs.free (h.elim id fun m => (r1.ma m).elim))) fun x hx u d F2 H2 e2 ok => z x u d F2 H2 hx (e1.thenM e2 fun _ m => (r1.ma m).elim) (ok.imp fun b h => e1.hs.free (h.elim id fun m => (r1.ma m).elim))⟩
theorem st_retX {P : Ret → Prop} {R : Exn → Prop} (he : EXX X Γ e P R) (hP : ∀ r, P r → E.rt r) (hR : ∀ x, R x → E.ex Γ x) : ST X (.Return (some e) pos :: rest) Γ E := fun B F H σ D L ed =>
  WP.cons (ps_ret peW) (he B F H σ _ L (fun r v F1 H1 hr e1 ok => ed.rt r v F1 H1 (hP r hr) (L.step e1).ext (ok.imp fun b h => L.nw h)) fun x u d F1 H1 hx e1 ok => ed.exS (Same.refl F) (hR x hx) L e1 ok)
theorem st_dropX {P : Ret → Prop} {R : Exn → Prop} (he : EXX X Γ e P R) (hr : ST X rest Γ E) (hR : ∀ x, R x → E.ex Γ x) (hs : autoParam (swapsWith e none pos.line X.env = pure false) aRfl) : ST X (.Expr e pos :: rest) Γ E := fun B F H σ D L ed =>
  WP.cons (ps_expr peW hs) (he B F H σ _ L (fun r v F1 H1 _ e1 _ => hr B F1 H1 σ D (L.step e1) (ed.weak e1.ff)) fun x u d F1 H1 hx e1 ok => ed.exS (Same.refl F) (hR x hx) L e1 ok)
theorem raisesX {n : Str} {C : Addr} (x : XCls X.K n C) : Raises X (.ref C) := raises_own x.is.hs x.ty
theorem st_raise0 {n m : Str} {j : Nat} {p1 p3 : Pos} (hc : XC X.K X.mg n) (hp : XPlain X.K n) (hE : E.ex Γ ⟨n, "", .no⟩) (hcalm : autoParam (X.calm = true) aRfl) (hg : autoParam (Gl X n) aRfl) (hdb : autoParam ((n == ("__debug__" : Str)) = false) aDec) :
    ST X (.Raise (some (.Call (.Name n p) [.Constant (.str m) j p2] [] p1)) none p3 :: rest) Γ E := fun B F H σ D L ed => by
  obtain ⟨C, xC, gC⟩ := hc
  refine WP.cons (ps_raise hcalm takesW (pmk_own PySem.F.excBase_ValueError (hp C xC.ns) gC xC.kp (raisesX xC) hg hdb)) ?_
  exact ed.exS (Same.refl F) hE L (Ext.refl L.same) ⟨C, rfl, xC.ns, rfl⟩
noncomputable def InitSp (K : PySem.W.Frag) (C : Addr) (fld : Str) : Sp := fun vs H Q E => ∃ (a : Addr) (v : V), vs = [.ref a, v] ∧ H a = some (exo a C none) ∧ ∀ dx, H dx = none → dx ≠ a → Q .non (upd (upd H dx (exd dx [(fld, v)])) a (exo a C (some dx)))
structure XInit (P : Program) (w : World) (K : PySem.W.Frag) (mg : Str → Option Value) (base : Heap) (k : Nat) (n fld : Str) : Prop where
  ex : ∀ C, PySem.W.nsIn K mainGlobals n = some (some (.ref C)) → OexC K C ∧ ∃ (fI : Addr) (fd : FuncData) (ps : List Str), PySem.W.findIn K (.ref C) "__init__" = some (some (.ref fI)) ∧ PySem.W.typeIn K (.ref fI) = some (.type "function") ∧ Binds K fd ps [] ∧ FnOk P w K mg base (L2.CX P w) k fI fd ps (InitSp K C fld)
theorem st_raise1 {n fld : Str} {y : α} {k : Nat} {p1 p3 : Pos} (hc : XC X.K X.mg n) (hi : XInit X.prog X.w X.K X.mg X.base k n fld) (hr : Room (k + 1) X.A) (he : EV X Γ e y) (hE : E.ex Γ ⟨n, fld, .val i y⟩) (hcalm : autoParam (X.calm = true) aRfl) (hg : autoParam (Gl X n) aRfl) (hdb : autoParam ((n == ("__debug__" : Str)) = false) aDec)
    (hs : autoParam (starEach [e] X.env = (false, eval e X.env) :: starEach [] X.env) aStar) (hpl : autoParam ((backTo p1 (starEach [] X.env)).any (·.1) = false) aPl) :
    ST X (.Raise (some (.Call (.Name n p) [e] [] p1)) none p3 :: rest) Γ E := fun B F H σ D L ed => by
  obtain ⟨C, xC, gC⟩ := hc
  obtain ⟨T, fI, fd, ps, iC, tI, hb, F1⟩ := hi.ex C xC.ns
  refine WP.cons (ps_raise hcalm takesW (pmk_oex T iC tI F1 hr hb .nil passL hg gC paW hdb hs hpl)) ?_
  refine ea_cons he ea_nil hs B F H σ _ L fun vs F1 H1 e1 r1 => ?_
  match vs, r1 with
  | [w], ⟨rw1, _⟩ =>
  refine ⟨by show 1 ≤ 1000; decide, fun a ha => ⟨a, w, rfl, upd_same, fun dx hdx hne => ⟨rfl, dx, [(fld, w)], upd_same, by rw [upd_ne hne, upd_same], ?_, ?_⟩⟩⟩
  · rw [upd_ne hne] at hdx; exact hdx
  · have hd1 : H1 dx = none := by rw [upd_ne hne] at hdx; exact hdx
    have s1 := (L.step e1).same
    have eq : upd (del (upd (upd (upd H1 a (exo a C none)) dx (exd dx [(fld, w)])) a (exo a C (some dx))) a) dx (.xd [(fld, w)]) = upd H1 dx (.xd [(fld, w)]) := by
      funext b
      by_cases hbd : b = dx
      · subst hbd; rw [upd_same, upd_same]
      · rw [upd_ne hbd, upd_ne hbd]
        by_cases hba : b = a
        · subst hba; rw [del_same, ha]
        · rw [del_ne hba, upd_ne hba, upd_ne hbd, upd_ne hba]
    rw [eq]
    have e2 := Ext.apart (o := .xd [(fld, w)]) s1 hd1
    refine ed.exS (Same.refl F) hE L (e1.trans e2) ⟨C, rfl, xC.ns, dx, w, rfl, e1.hs.free hd1, s1.free hd1, upd_same, rw1⟩
end
section
variable {P : Program} {w : World} {K : PySem.W.Frag} {mg : Str → Option Value} {base : Heap}
theorem Has.ofX {n : Str} {st : Stmt} {N ps : List Str} {k : Nat} {S : Spec} (D : Df K mg n st ps) (sc : FnScope N ps (defScope st)) (len : ∀ A Q R, S A Q R → A.length = ps.length)
    (body : ∀ (f : Addr) (cdv : Value) (A : Around) (outer : List Env) (s : Shared) (H : Hp) (E : XK), Room k (A.deeper (envOfC n (defScope st) s.heap.objs.size f cdv)) → ∀ Γ Q R, S Γ Q R →
      ST (cxOf (L2.CX P w) P w K mg base N n (defScope st) f cdv A outer s H E) (defBody st) (Γ ++ List.replicate (N.length - ps.length) .no) (finX Q R)) :
    Has P w K mg base (k + 1) n ps S := by
  obtain ⟨f, fd, F, hb, hm⟩ := D.ex
  refine ⟨f, fd, hm, F.kp, hb, F.okX sc (fun vs H Q E ⟨F0, A, s, r, ap, h⟩ => ?_) (fun cdv A outer s H vs Q E hr h => ?_)⟩
  · rw [r.len]; exact len _ _ _ h
  · obtain ⟨F0, A0, sm, r, ap, h⟩ := h
    refine ⟨_, psW, ?_⟩
    have hl := len _ _ _ h
    have L0 := lc_start (K := K) sm r ap (N.length - ps.length)
    have L1 : Lc K ⟨F0, H, MA A0⟩ F0 H (L2.start N vs) (A0 ++ List.replicate (N.length - ps.length) .no) := by
      unfold L2.start
      rw [show vs.length = ps.length from r.len.trans hl]
      exact L0
    refine body f cdv A outer s H E hr A0 _ _ h ⟨F0, H, MA A0⟩ F0 H _ _ L1 ⟨fun F' H' σ' Γ' _ hq L => ?_, fun r v F' H' hq ex ok => hq v F' H' ex ok, fun _ _ _ _ _ z => z.elim, fun _ _ _ _ _ z => z.elim, fun F1 H1 σ' Γ' x u d _ hq L ok => ?_⟩
    · exact hq .non F' H' L.ext rfl
    · exact XW.of (L2.takes_of rfl rfl rfl rfl) (hq u d F1 H1 L.ext (ok.imp fun b h => h.1))
end
end Tw
namespace Tw
open PySem PySem.Spec PyProof.Rows L2 TL
end Tw
namespace Tw
open PySem PySem.Spec PyProof.Rows L2 TL
section
variable {X : Cx} {Γ : List Slot} {α β γ : Type} {i : Rep α} {j : Rep β} {l : Rep γ} {pos p p2 : Pos} {e a b c elt tg it : Expr} {es : List Expr} {E : SE} {rest body : List Stmt}
theorem src_zip {xs : List α} {ys : List β} {elts : List Expr} {kk : Nat} {tpos p2 : Pos} (hm : X.mg "zip" = none) (ha : EV X Γ a xs) (hb : EV X Γ b ys) (hg : autoParam (Gl X "zip") aRfl)
    (hs : autoParam (starEach [a, b] X.env = (false, eval a X.env) :: starEach [b] X.env) aStar) (hs2 : autoParam (starEach [b] X.env = (false, eval b X.env) :: starEach [] X.env) aStar) (hpl : autoParam ((backTo p2 (starEach [b] X.env)).any (·.1) = false) aPl) : Src X Γ (.Tuple elts kk tpos) (.Call (.Name "zip" p) [a, b] [] p2) (xs.zip ys) :=
  ⟨_, pi_zip hg hm (pa_cons peW (pa_cons peW pa_nil hs2) hs) hs hpl, fun B F H σ R L q => ha B F H σ _ L fun v F1 H1 e1 r1 => hb B F1 H1 σ _ (L.step e1) fun u F2 H2 e2 r2 => by
    obtain ⟨a1, vs, rfl, h1, p1⟩ := r1
    obtain ⟨a2, ws, rfl, h2, p2⟩ := r2
    have s2 := (L.step (e1.trans e2)).same
    have h1' := e2.ff _ _ h1
    refine ⟨a1, a2, vs, ws, rfl, sq_of s2 h1', sq_of s2 h2, q _ F2 H2 (e1.trans e2) fun F3 H3 s3 s4 => ⟨fun k x hx => ?_, vs, ws, sq_of s4 (s3 _ _ h1'), sq_of s4 (s3 _ _ h2), ?_⟩⟩
    · obtain ⟨hx1, hx2⟩ := List.getElem?_zip_eq_some.mp hx
      obtain ⟨w1, hw1, r1'⟩ := pgetL p1 hx1
      obtain ⟨w2, hw2, r2'⟩ := pgetL p2 hx2
      refine ⟨⟨vs, ws, w1, w2, sq_of s4 (s3 _ _ h1'), sq_of s4 (s3 _ _ h2), hw1, hw2⟩, fun v H4 hy => ?_⟩
      obtain ⟨T, y1, y2, rfl, hT, rfl, g1, g2⟩ := hy
      have z1 : w1 = y1 := Option.some.inj (hw1.symm.trans (g1 vs (sq_of s4 (s3 _ _ h1'))))
      have z2 : w2 = y2 := Option.some.inj (hw2.symm.trans (g2 ws (sq_of s4 (s3 _ _ h2))))
      subst z1 z2
      have ea := Ext.new (o := .tup [w1, w2]) s4 hT
      exact ⟨_, ea, T, w1, w2, rfl, upd_same, i.mono (e2.ff.trans (s3.trans ea.ff)) r1', j.mono (s3.trans ea.ff) r2'⟩
    · rw [List.length_zip, Paired.length p1, Paired.length p2]; omega⟩
noncomputable def enumL {A : Type} (xs : List A) : List (Int × A) := (xs.zipIdx).map fun p => ((p.2 : Int), p.1)
theorem enumL_get {A : Type} {xs : List A} {k : Nat} {x : Int × A} (h : (enumL xs)[k]? = some x) : x.1 = (k : Int) ∧ xs[k]? = some x.2 := by
  unfold enumL at h
  rw [List.getElem?_map, List.getElem?_zipIdx] at h
  cases q : xs[k]? with
  | none => rw [q] at h; cases h
  | some y =>
    rw [q] at h
    have : x = ((k : Int), y) := by simpa using h.symm
    rw [this]
    exact ⟨rfl, rfl⟩
theorem enumL_len {A : Type} {xs : List A} : (enumL xs).length = xs.length := by unfold enumL; simp
theorem src_enum {xs : List α} {elts : List Expr} {kk : Nat} {tpos p2 : Pos} (hm : X.mg "enumerate" = none) (ha : EV X Γ a xs) (hg : autoParam (Gl X "enumerate") aRfl) (hs : autoParam (starEach [a] X.env = [(false, eval a X.env)]) aStar) : Src X Γ (.Tuple elts kk tpos) (.Call (.Name "enumerate" p) [a] [] p2) (enumL xs) :=
  ⟨_, pi_enum hg hm (pa_cons peW pa_nil hs) hs, fun B F H σ R L q => ha B F H σ _ L fun v F1 H1 e1 r1 => by
    obtain ⟨a1, vs, rfl, h1, p1⟩ := r1
    have s2 := (L.step e1).same
    refine ⟨a1, vs, rfl, sq_of s2 h1, q _ F1 H1 e1 fun F3 H3 s3 s4 => ⟨fun k x hx => ?_, vs, sq_of s4 (s3 _ _ h1), ?_⟩⟩
    · obtain ⟨n, y⟩ := x
      obtain ⟨hx1, hx2⟩ := enumL_get hx
      obtain ⟨w1, hw1, r1'⟩ := pgetL p1 hx2
      refine ⟨⟨vs, w1, sq_of s4 (s3 _ _ h1), hw1⟩, fun v H4 hy => ?_⟩
      obtain ⟨T, y1, rfl, hT, rfl, g1⟩ := hy
      have z1 : w1 = y1 := Option.some.inj (hw1.symm.trans (g1 vs (sq_of s4 (s3 _ _ h1))))
      subst z1
      have ea := Ext.new (o := .tup [.int (k : Nat), w1]) s4 hT
      exact ⟨_, ea, T, .int (k : Nat), w1, rfl, upd_same, (show V.int (k : Nat) = V.int n by rw [show n = (k : Int) from hx1]), i.mono (s3.trans ea.ff) r1'⟩
    · rw [enumL_len, Paired.length p1]; exact Nat.le_refl _⟩
theorem en_addL {xs ys : List α} (ha : EV X Γ a xs) (hb : EV X Γ b ys) (hz : xs.length + ys.length ≤ sizeLine) : EN X Γ (.BinOp a .Add b pos) (xs ++ ys) := fun B F H σ Q L q =>
  WE.of (pe_op op_cat peW peW) (ha B F H σ _ L fun v F1 H1 e1 r1 => hb B F1 H1 σ _ (L.step e1) fun u F2 H2 e2 r2 => by
    obtain ⟨a1, vs, rfl, h1, p1⟩ := r1
    obtain ⟨a2, ws, rfl, h2, p2⟩ := r2
    have e12 := e1.trans e2
    have s2 := (L.step e12).same
    refine ⟨a1, a2, vs, ws, rfl, rfl, s2 _ _ (e2.ff _ _ h1), s2 _ _ h2, by rw [Paired.length p1, Paired.length p2]; exact hz, fun p hp => ?_⟩
    exact q p (vs ++ ws) F2 _ (e12.trans (Ext.apart s2 hp)) (e12.hs.free hp) (s2.free hp) upd_same (papp (Paired.mapP p1 fun _ _ z => i.mono e2.ff z) p2))
theorem ev_fst {x : α × β} {k} (ha : EV X Γ a x) (hp : autoParam (PlainIx (.Constant (.int 0) k p)) Tw.aIR2) : EV X Γ (.Subscript a (.Constant (.int 0) k p) pos) x.1 := fun B F H σ Q L q =>
  WE.of (pe_ix ix_tup peW pe_int hp) (ha B F H σ _ L fun v F1 H1 e1 r1 => by
    obtain ⟨ad, u, w, rfl, h1, r1, r2⟩ := r1
    exact ⟨ad, [u, w], 0, u, rfl, rfl, st_of (L.step e1).same h1, rfl, q u F1 H1 e1 r1⟩)
theorem ev_snd {x : α × β} {k} (ha : EV X Γ a x) (hp : autoParam (PlainIx (.Constant (.int 1) k p)) Tw.aIR2) : EV X Γ (.Subscript a (.Constant (.int 1) k p) pos) x.2 := fun B F H σ Q L q =>
  WE.of (pe_ix ix_tup peW pe_int hp) (ha B F H σ _ L fun v F1 H1 e1 r1 => by
    obtain ⟨ad, u, w, rfl, h1, r1, r2⟩ := r1
    exact ⟨ad, [u, w], 1, w, rfl, rfl, st_of (L.step e1).same h1, rfl, q w F1 H1 e1 r2⟩)
theorem MA_cons {s : Slot} {A : List Slot} {b : Addr} (h : MA (s :: A) b) : (∃ o, s = .own o ∧ b ∈ o.fp) ∨ MA A b := by
  obtain ⟨o, h1, h2⟩ := h
  rcases List.mem_cons.mp h1 with z | z
  · exact .inl ⟨o, z.symm, h2⟩
  · exact .inr ⟨o, z, h2⟩
theorem Apart.tail {s : Slot} {A : List Slot} (h : Apart A) (hs : ∀ o, s = .own o → ∀ b ∈ o.fp, ¬ MA A b) : Apart (s :: A) := fun x y o1 o2 hxy h1 h2 b hb1 hb2 => by
  cases x with
  | zero =>
    cases y with
    | zero => exact hxy rfl
    | succ y => exact hs o1 (Option.some.inj h1) b hb1 ⟨o2, List.mem_of_getElem? (by simpa using h2), hb2⟩
  | succ x =>
    cases y with
    | zero => exact hs o2 (Option.some.inj h2) b hb2 ⟨o1, List.mem_of_getElem? (by simpa using h1), hb1⟩
    | succ y => exact h x y o1 o2 (fun z => hxy (by rw [z])) (by simpa using h1) (by simpa using h2) b hb1 hb2
theorem st_setO (k : Nat) {n : Str} {P0 : Own → Prop} (he : EX X Γ e (fun r => r = .own P0)) (hr : ∀ o, P0 o → ST X rest (Γ.set k (.own o)) E) (hN : X.N.Nodup) (hi : autoParam (X.N[k]? = some n) aRfl) (hx : autoParam (L2.Loc X.env.scope n) aLoc)
    (hs : autoParam (swapsWith e (some (.Name n p)) pos.line X.env = pure false) aRfl) (hf : autoParam (X.fn n = true ∨ X.env.scope.names.lookup n = some .local) Tw.aFn) : ST X (.Assign [.Name n p] e pos :: rest) Γ E := fun B F H σ D L ed =>
  WP.cons (ps_set hN hi hx peW hs hf) (he B F H σ _ L fun r v F1 H1 er e1 r1 => by
    subst er
    obtain ⟨o, hP0, f, ok1⟩ := r1
    exact hr o hP0 B F1 H1 _ D (L.putO k e1 f ok1) (ed.weak e1.ff))
end
end Tw
namespace Tw
open PySem PySem.Spec PyProof.Rows L2 TL
noncomputable def clsBody : Stmt → Nat → Stmt
  | .ClassDef _ _ _ body _ _ _ _ _ _ _, j => body.getD j (.Pass ⟨0, 0, 0, 0⟩)
  | st, _ => st
structure XBase (K : PySem.W.Frag) (mg : Str → Option Value) (n : Str) (D : Addr) : Prop where
  g : mg n = some (.ref D)
  sp : PySem.W.specialIn K (.ref D) "__getattribute__" = some (some (.builtin "type.__getattribute__"))
  rd : PySem.W.readsIn K D (.type "type") = true
  fc : PySem.W.findCls K (.ref D) (.type "type") "__init__" = some (.val (.builtin "ValueError.__init__"))
theorem pe_qinit {X : Cx} {n : Str} {D : Addr} {e : Expr} {es : List Expr} {ta : TA} {p1 p2 pos : Pos} {pl : Sem Bool} (T : XBase X.K X.mg n D) (ha : PA X (e :: es) ta) (hg : autoParam (Gl X n) aRfl) (hd : autoParam ((n == ("__debug__" : Str)) = false) aDec)
    (hc : autoParam (eval (.Call (.Attribute (.Name n p1) "__init__" p2) (e :: es) [] pos) X.env = (do
      let ov ← eval (.Name n p1) X.env
      standAt p2.atName
      let (f, first) ← holding [ov] (getMethod ov "__init__" pl)
      callWith pos f first (backTo pos (starEach (e :: es) X.env)) (backToKw pos (keywordEach [] X.env)))) aRfl)
    (he : autoParam (starEach (e :: es) X.env = (false, eval e X.env) :: starEach es X.env) aStar) (hpl : autoParam ((backTo pos (starEach es X.env)).any (·.1) = false) aPl) :
    PE X (.Call (.Attribute (.Name n p1) "__init__" p2) (e :: es) [] pos) (tVeI X.K ta) := by
  refine ⟨fun pins s σ H Q I h => ?_⟩
  refine PySem.W.methodCall_KW (ld_glob I hg T.g ?_ hd) hc
  refine PySem.W.method_cls I.kIn T.sp (PySem.W.cls_value I.kIn T.rd T.fc (by decide +kernel) ?_)
  show wpAny _ _ (callWith pos (Value.builtin "ValueError.__init__") [] (backTo pos (starEach (e :: es) X.env)) []) _ _ _
  refine PyProof.Rows.callWith_method1 (thn (ha.run pos pins _ σ H _ (I.tok _) h) fun us s1 ⟨vs, H1, I1, r1, a, C, ws, ev, hl, T, ea, q⟩ => ?_) he hpl
  subst ev
  cases r1 with
  | @cons _ u0 _ ur ra rw' =>
    obtain rfl : u0 = Value.ref a := ra
    have hlen : ur.length ≤ sizeLine := by
      rw [← Paired.length rw', sizeLine_eq]
      omega
    exact oinit_ok T I1 ea hlen fun s' J => ⟨.non, H1, J, rfl, q⟩
structure Dx (K : PySem.W.Frag) (n fld qual : Str) (st : Stmt) (ps : List Str) : Prop where
  ex : ∃ C fI fd, PySem.W.nsIn K mainGlobals n = some (some (.ref C)) ∧ OexC K C ∧ PySem.W.findIn K (.ref C) fld = some none ∧ PySem.W.findIn K (.ref C) "__init__" = some (some (.ref fI)) ∧ PySem.W.typeIn K (.ref fI) = some (.type "function") ∧ Fun K "__init__" qual st fI fd ∧ Binds K fd ps []
theorem Dx.fld {K : PySem.W.Frag} {n fld qual : Str} {st : Stmt} {ps : List Str} (D : Dx K n fld qual st ps) : XFld K n fld := fun C h => by
  obtain ⟨C', fI, fd, hC, _, hno, _⟩ := D.ex
  obtain rfl := ns_one hC h
  exact hno
section
variable {P : Program} {w : World} {K : PySem.W.Frag} {mg : Str → Option Value} {base : Heap}
theorem XInit.of {n fld qual : Str} {st : Stmt} {N : List Str} {x y : Str} (D : Dx K n fld qual st [x, y]) (sc : FnScope N [x, y] (defScope st)) (hN : N.length = 2)
    (body : ∀ (C fI : Addr) (T : OexC K C) (hno : PySem.W.findIn K (.ref C) fld = some none) (cdv : Value) (A : Around) (outer : List Env) (s : Shared) (H : Hp) (E : XK) (a : Addr) (v : V) (Q : VK), H a = some (exo a C none) →
      (∀ dx, H dx = none → dx ≠ a → Q .non (upd (upd H dx (exd dx [(fld, v)])) a (exo a C (some dx)))) → WP (cxOf (L2.CX P w) P w K mg base N qual (defScope st) fI cdv A outer s H E) (defBody st) { nx := fun _ H' => Q .non H', rt := Q } [some (.ref a), some v] H) :
    XInit P w K mg base 1 n fld := by
  obtain ⟨C, fI, fd, hC, T, hno, iC, tI, F, hb⟩ := D.ex
  refine ⟨fun C' hC' => ?_⟩
  obtain rfl := ns_one hC hC'
  refine ⟨T, fI, fd, [x, y], iC, tI, hb, F.okX sc (fun vs H Q E ⟨a, v, e, _⟩ => by rw [e]; rfl) (fun cdv A outer s H vs Q E hr h => ?_)⟩
  obtain ⟨a, v, rfl, ha, hq⟩ := h
  refine ⟨_, psW, ?_⟩
  have e1 : L2.start N [V.ref a, v] = [some (.ref a), some v] := by
    unfold L2.start
    rw [hN]
    rfl
  rw [e1]
  exact body C' fI T hno cdv A outer s H E a v Q ha hq
end
section
variable {X : Cx} {Γ : List Slot} {α β γ : Type} {i : Rep α} {j : Rep β} {l : Rep γ} {pos p p2 : Pos} {e a b c elt tg it : Expr} {es : List Expr} {E : SE} {rest body : List Stmt}
theorem o_inS {c : Nat} {z : Tx} : OB X (compareOp .In) ([c] : Tx) z (decide (c ∈ z)) := ob_flat op_in_sign fun F H v u Q s r1 r2 q => ⟨c, sx z, r1, r2, q _ rfl⟩
theorem o_notInS {c : Nat} {z : Tx} : OB X (compareOp .NotIn) ([c] : Tx) z (!decide (c ∈ z)) := ob_flat op_notIn_sign fun F H v u Q s r1 r2 q => ⟨c, sx z, r1, r2, q _ rfl⟩
theorem Lc.freeze {K : PySem.W.Frag} {B : Bs} {F H : Hp} {σ : L2.St} {k : Nat} {o : Own} {x : α} (L : Lc K B F H σ Γ) (hk : Γ[k]? = some (.own o)) (hx : Froz o x) : Lc K B (frz F H o.fp) H σ (Γ.set k (.val i x)) ∧ Same F (frz F H o.fp) := by
  obtain ⟨v, ev, ok, f⟩ := slot_own L hk
  have f0 : ∀ b ∈ o.fp, F b = none := fun b hb => (f b hb).1
  refine ⟨⟨⟨L.ext.ff.trans (frz_le f0), frz_same L.same, L.ext.hh, fun a hm h1 h2 => ?_, L.ext.th⟩, by simp [L.len], fun q t hq => ?_, L.ap.put k rfl⟩, frz_le f0⟩
  · have na : a ∉ o.fp := fun hb => (f a hb).2.elim (fun z => h2 z) hm
    rw [frz_out na]
    exact L.ext.nwM a hm h1 h2
  · rcases get_set_slot hq with ⟨e1, e2, rfl⟩ | ⟨e1, hq'⟩
    · subst e1
      rw [ev]
      exact ⟨v, rfl, hx L.same ok f0⟩
    · have old := L.ok q t hq'
      cases t with
      | no => trivial
      | val i x => obtain ⟨v, e2, r⟩ := old; exact ⟨v, e2, i.mono (frz_le f0) r⟩
      | own o2 =>
        obtain ⟨u, eu, ok2, f2⟩ := old
        exact ⟨u, eu, o2.stay (frz_le f0) (fun _ _ _ h => h) ok2, fun b hb => ⟨by rw [frz_out (fun hb2 => L.ap k q o o2 e1 hk hq' b hb2 hb)]; exact (f2 b hb).1, (f2 b hb).2⟩⟩
theorem st_freeze (k : Nat) {o : Own} {x : α} {sts : List Stmt} (hx : Froz o x) (h : ST X sts (Γ.set k (.val i x)) E) (hk : autoParam (Γ[k]? = some (.own o)) aRfl) : ST X sts Γ E := fun B F H σ D L ed => by
  obtain ⟨L', s⟩ := L.freeze hk hx
  exact h B _ H σ D L' (ed.weak s)
theorem st_setEx (k : Nat) {n : Str} {G : α → Prop} (he : EX X Γ e (fun r => ∃ x, G x ∧ r = .val i x)) (hr : ∀ x, G x → ST X rest (Γ.set k (.val i x)) E) (hN : X.N.Nodup) (hi : autoParam (X.N[k]? = some n) aRfl) (hx : autoParam (L2.Loc X.env.scope n) aLoc)
    (hs : autoParam (swapsWith e (some (.Name n p)) pos.line X.env = pure false) aRfl) (hf : autoParam (X.fn n = true ∨ X.env.scope.names.lookup n = some .local) Tw.aFn) : ST X (.Assign [.Name n p] e pos :: rest) Γ E := fun B F H σ D L ed =>
  WP.cons (ps_set hN hi hx peW hs hf) (he B F H σ _ L fun r v F1 H1 er e1 r1 => by
    obtain ⟨x, hG, rfl⟩ := er
    exact hr x hG B F1 H1 _ D ((L.step e1).putV k r1) (ed.weak e1.ff))
end
set_option genInjectivity true in
structure Why where
  w : Tx
  ns : List Int
  deriving DecidableEq
noncomputable instance repWhy : Rep Why := ⟨fun _ H v x => ∃ a, v = .ref a ∧ H a = some (.tup (.str (sx x.w) :: x.ns.map V.int)), fun s ⟨a, e, h⟩ => ⟨a, e, s _ _ h⟩⟩
theorem dpInts {K : PySem.W.Frag} {F : Hp} : ∀ ns : List Int, DpAll K F (ns.map V.int) (ns.map PyData.int)
  | [] => .nil
  | n :: ns => .cons (.int n) (dpInts ns)
theorem layInts : ∀ ns : List Int, PyData.canLayAll0 (ns.map PyData.int) = true
  | [] => by rw [List.map_nil, PyData.canLayAll0]
  | n :: ns => by rw [List.map_cons, PyData.canLayAll0, PyData.canLay0, layInts ns]; rfl
theorem depInts : ∀ ns : List Int, PyData.depthAll (ns.map PyData.int) = 0
  | [] => by rw [List.map_nil, PyData.depthAll]
  | n :: ns => by rw [List.map_cons, PyData.depthAll, depInts ns]; simp [PyData.depth]
noncomputable abbrev instDatTx : Dat (List Nat) := inferInstance
noncomputable instance : Dat Why := ⟨fun x => .tuple (.str (sx x.w) :: x.ns.map PyData.int), fun x => TxOk x.w, 1, fun {K F v x} ⟨a, e, h⟩ => by subst e; exact .tup (.inl (.inl h)) (.cons (.str _) (dpInts _)),
  fun {x} h => by
    rw [PyData.canLay0, PyData.canLayAll0, layInts]
    have := (instDatTx).lay (x := x.w) h
    show (PyData.canLay0 (.str (sx x.w)) && true) = true
    rw [show PyData.canLay0 (.str (sx x.w)) = true from this]; rfl,
  fun x => by rw [PyData.depth, PyData.depthAll, depInts]; simp [PyData.depth], fun x y => by
    rw [PyData.eqv, PyData.eqvAll]
    have h1 := (instDatTx).eqv x.w y.w
    have h2 := eqvAll (α := Int) x.ns y.ns
    rw [show PyData.eqv (.str (sx x.w)) (.str (sx y.w)) = decide (x.w = y.w) from h1, show PyData.eqvAll (x.ns.map PyData.int) (y.ns.map PyData.int) = decide (x.ns = y.ns) from h2, ← Bool.decide_and]
    exact decide_eq_decide.mpr (by cases x; cases y; simp)⟩
noncomputable instance : Ty Why := ⟨"tuple", fun {_ _ _ v x} s h => by obtain ⟨a, rfl, h⟩ := h; exact .base (.tup (s _ _ h))⟩
noncomputable instance : NonN Why := ⟨fun h z => by obtain ⟨a, rfl, _⟩ := h; cases z⟩
section
variable {X : Cx} {Γ : List Slot} {pos p p2 : Pos} {a : Expr} {es : List Expr}
theorem ev_why {x1} {w : Tx} {ns : List Int} (ha : EV X Γ a w) (hs : EAs X Γ es ns) (hz : ns.length ≤ 999 := by simp) (hst : autoParam (starEach (a :: es) X.env = (false, eval a X.env) :: starEach es X.env) aStar) : EV X Γ (.Tuple (a :: es) x1 pos) (Why.mk w ns) := fun B F H σ Q L q =>
  WE.of (pe_tup (pa_cons peW paW hst)) (ha B F H σ _ L fun v F1 H1 e1 r1 => hs B F1 H1 σ _ (L.step e1) fun vs F2 H2 e2 r2 => ⟨by rw [List.length_cons, Paired.length r2]; exact sl_small (by omega), fun p hp => by
    have e12 := e1.trans e2
    have ea := Ext.new (o := .tup (v :: vs)) (L.step e12).same hp
    obtain rfl : v = .str (sx w) := r1
    have hv := Rps.ints r2
    subst hv
    exact q (.ref p) _ _ (e12.trans ea) ⟨p, rfl, upd_same⟩⟩)
end
end Tw
namespace Tw
open PySem PySem.Spec PyProof.Rows L2 TL
section
variable {K : PySem.W.Frag} {B : Bs} {F H F' H' : Hp} {σ : L2.St} {Γ : List Slot} {M : Addr → Prop}
theorem Lc.after (L : Lc K B F H σ Γ) (e : ExtM M F H F' H') {k : Nat} {o : Own} (hg : Γ[k]? = some (.own o)) (hM : ∀ b, M b → b ∈ o.fp) : Lc K B F' H' σ (Γ.set k .no) := by
  obtain ⟨v, ev, ok, f⟩ := slot_own L hg
  have here : ∀ b u, ¬ B.M b → B.H b = some u → ¬ M b := fun b u nb q m => (f b (hM b m)).2.elim (fun z => by rw [z] at q; cases q) nb
  refine ⟨⟨L.ext.ff.trans e.ff, e.fh, fun b u nb q => e.hh b u (here b u nb q) (L.ext.hh b u nb q), fun b nb h1 h2 => ?_, fun b hb h => ?_⟩, by simp [L.len], fun q t hq => ?_, L.ap.put k rfl⟩
  · cases q : B.H b with
    | none => exact absurd q h2
    | some u => exact e.nwM b (here b u nb q) (L.ext.nwM b nb h1 h2) (by rw [L.ext.hh b u nb q]; exact fun z => nomatch z)
  · have := L.ext.th b hb h
    by_cases m : M b
    · exact e.th b m this
    · cases q : H b with
      | none => exact absurd q this
      | some u => rw [e.hh b u m q]; exact fun z => nomatch z
  · rcases get_set_slot hq with ⟨_, _, rfl⟩ | ⟨e1, hq'⟩
    · trivial
    · have old := L.ok q t hq'
      cases t with
      | no => trivial
      | val i x => obtain ⟨v, e2, r⟩ := old; exact ⟨v, e2, i.mono e.ff r⟩
      | own o2 =>
        obtain ⟨u, eu, ok2, f2⟩ := old
        have nM : ∀ b ∈ o2.fp, ¬ M b := fun b hb m => L.ap k q o o2 e1 hg hq' b (hM b m) hb
        exact ⟨u, eu, o2.stay e.ff (fun b hb w z => e.hh b w (nM b hb) z) ok2, fun b hb => ⟨e.nwM b (nM b hb) (f2 b hb).1 (o2.there ok2 b hb), (f2 b hb).2⟩⟩
theorem Lc.back (L : Lc K B F H σ Γ) (e : ExtM M F H F' H') {k : Nat} {o o' : Own} (hg : Γ[k]? = some (.own o)) (hM : ∀ b, M b → b ∈ o.fp) (ok' : o'.ok K F' H' o'.root) (f' : ∀ b ∈ o'.fp, (H b = none ∨ M b) ∧ F' b = none) (hr : o'.root = o.root) : Lc K B F' H' σ (Γ.set k (.own o')) := by
  have L1 := L.after e hg hM
  obtain ⟨v, ev, ok, f⟩ := slot_own L hg
  have er : v = o.root := o.rt ok
  refine ⟨L1.ext, by simp [L.len], fun q t hq => ?_, L.ap.putO k fun j o2 hj h b hb => ?_⟩
  · rcases get_set_slot hq with ⟨e1, e2, rfl⟩ | ⟨e1, hq'⟩
    · subst e1
      rw [ev]
      refine ⟨v, rfl, by rw [er, ← hr]; exact ok', fun b hb => ⟨(f' b hb).2, ?_⟩⟩
      rcases (f' b hb).1 with z | m
      · exact L.nw z
      · exact (f b (hM b m)).2
    · exact L1.ok q t (by rw [List.getElem?_set_ne e1]; exact hq')
  · rcases (f' b hb).1 with z | m
    · exact L.ne_own z h
    · exact L.ap k j o o2 hj hg h b (hM b m)
end
noncomputable def EG (X : Cx) (Γ : List Slot) (e : Expr) (P : Ret → List Slot → Prop) (R : Exn → List Slot → Prop) : Prop :=
  ∀ B F H σ Q, Lc X.K B F H σ Γ → (∀ r v F' H' Γ', P r Γ' → Same F F' → Lc X.K B F' H' σ Γ' → ROk X.K (fun b => B.nw b ∧ Free Γ' b) F' H' v r → Q v H') →
    (∀ x u d F' H' Γ', R x Γ' → Same F F' → Lc X.K B F' H' σ Γ' → XOk X.K (fun b => B.nw b ∧ Free Γ' b) F' H' u d x → XW X u d σ H') → WE X e σ H Q
noncomputable def EAb (X : Cx) (Γ : List Slot) (es : List Expr) (A : List Slot) : Prop :=
  ∀ B F H σ Q, Lc X.K B F H σ Γ → (∀ vs F' H', Ext F H F' H' → VsOkO X.K F' H' vs A → Q vs H') → WA X es σ H Q
noncomputable def noOwn (A : List Slot) : Bool := A.all fun s => !s.isOwn
theorem noOwn_no {A : List Slot} (h : noOwn A = true) (o : Own) : Slot.own o ∉ A := fun m => by
  have := (List.all_eq_true.mp h) _ m
  cases this
theorem noOwn_ma {A : List Slot} (h : noOwn A = true) {b : Addr} (m : MA A b) : False := by
  obtain ⟨o, h1, _⟩ := m
  exact noOwn_no h o h1
theorem apart_one {o : Own} {A : List Slot} (h : noOwn A = true) : Apart (.own o :: A) := Apart.tail (fun i j o1 o2 _ h1 _ => absurd (List.mem_of_getElem? h1) (noOwn_no h o1)) fun _ _ _ _ m => noOwn_ma h m
theorem ma_one {o : Own} {A : List Slot} (h : noOwn A = true) {b : Addr} (m : MA (.own o :: A) b) : b ∈ o.fp := by
  rcases MA_cons m with ⟨o', z, hb⟩ | m
  · cases z; exact hb
  · exact (noOwn_ma h m).elim
section
variable {X : Cx} {Γ : List Slot} {α β γ : Type} {i : Rep α} {j : Rep β} {pos p p2 : Pos} {e a b c : Expr} {es : List Expr} {E : SE} {rest body : List Stmt}
theorem eab_nil : EAb X Γ [] [] := fun B F H σ Q L q => WA.of pa_nil (q [] F H (Ext.refl L.same) trivial)
theorem VsOkO.step {F H F' H' : Hp} (e : Ext F H F' H') : ∀ {vs : List V} {A : List Slot}, VsOkO X.K F H vs A → VsOkO X.K F' H' vs A
  | [], [], _ => trivial
  | v :: vs, .val i x :: A, h => ⟨i.mono e.ff h.1, VsOkO.step e h.2⟩
  | v :: vs, .own o :: A, h => ⟨o.stay e.ff (fun b _ u q => e.hs _ _ q) h.1, fun b hb => e.nw b (h.2.1 b hb) (o.there h.1 b hb), VsOkO.step e h.2.2⟩
  | [], _ :: _, h => h.elim
  | _ :: _, [], h => h.elim
  | _ :: _, .no :: _, h => h.elim
theorem eab_v {x : α} {A : List Slot} (h : EV X Γ e x) (hr : EAb X Γ es A) (hs : autoParam (starEach (e :: es) X.env = (false, eval e X.env) :: starEach es X.env) aStar) : EAb X Γ (e :: es) (.val i x :: A) := fun B F H σ Q L q =>
  WA.of (pa_cons peW paW hs) (h B F H σ _ L fun v F1 H1 e1 r1 => hr B F1 H1 σ _ (L.step e1) fun vs F2 H2 e2 ok => q (v :: vs) F2 H2 (e1.trans e2) ⟨i.mono e2.ff r1, ok⟩)
theorem eab_o (k : Nat) {n : Str} {o : Own} {A : List Slot} (hr : EAb X Γ es A) (hg : autoParam (Γ[k]? = some (.own o)) aRfl) (hN : autoParam (X.N[k]? = some n) aRfl) (hv : autoParam (Vis X.env.scope n) aVis) (hd : autoParam ((n == ("__debug__" : Str)) = false) aDec)
    (hcd : autoParam ((n == ("__classdict__" : Str)) = false) aDec) (hs : autoParam (starEach (.Name n p :: es) X.env = (false, eval (.Name n p) X.env) :: starEach es X.env) aStar) : EAb X Γ (.Name n p :: es) (.own o :: A) := fun B F H σ Q L q => by
  obtain ⟨v, ev, ok, f⟩ := slot_own L hg
  refine WA.of (pa_cons (pe_var hN hv hd hcd) paW hs) ⟨v, ev, hr B F H σ _ L fun vs F2 H2 e2 ok2 => q (v :: vs) F2 H2 e2 ⟨o.stay e2.ff (fun b _ u z => e2.hs _ _ z) ok, fun b hb => e2.nw b (f b hb).1 (o.there ok b hb), ok2⟩⟩
theorem borrow_rets {k : Nat} {o : Own} {A : List Slot} {B : Bs} {F H F1 H1 : Hp} {σ : L2.St} {Q : VK} {P : Ret → List Slot → Prop} {G : α → Own → Prop} (hg : Γ[k]? = some (.own o)) (L : Lc X.K B F H σ Γ) (e1 : Ext F H F1 H1) (hma : ∀ b, MA A b → b ∈ o.fp)
    (hG : ∀ x o', G x o' → o'.root = o.root) (hP : ∀ x o', G x o' → P (.val i x) (Γ.set k (.own o')))
    (q : ∀ r v F' H' Γ', P r Γ' → Same F F' → Lc X.K B F' H' σ Γ' → ROk X.K (fun b => B.nw b ∧ Free Γ' b) F' H' v r → Q v H') {x : α} {o' : Own} (hx : G x o') :
    ∀ v F' H', ExtM (MA A) F1 H1 F' H' → ROk X.K (Bs.nw ⟨F1, H1, MA A⟩) F' H' v (.chg i x [o']) → Q v H' := fun v F2 H2 e2 ok => by
  obtain ⟨r, f, _⟩ := ok
  obtain ⟨ok', f'⟩ := f o' (List.mem_singleton.mpr rfl)
  exact q (.val i x) v F2 H2 (Γ.set k (.own o')) (hP x o' hx) (e1.ff.trans e2.ff) ((L.step e1).back e2 hg hma ok' (fun b hb => f' b hb) (hG x o' hx)) r
theorem borrow_exns {k : Nat} {o : Own} {A : List Slot} {B : Bs} {F H F1 H1 : Hp} {σ : L2.St} {R : Exn → List Slot → Prop} (hg : Γ[k]? = some (.own o)) (L : Lc X.K B F H σ Γ) (e1 : Ext F H F1 H1) (hma : ∀ b, MA A b → b ∈ o.fp)
    (z : ∀ x u d F' H' Γ', R x Γ' → Same F F' → Lc X.K B F' H' σ Γ' → XOk X.K (fun b => B.nw b ∧ Free Γ' b) F' H' u d x → XW X u d σ H') {x : Exn} (hx : R x (Γ.set k .no)) :
    ∀ u d F' H', ExtM (MA A) F1 H1 F' H' → XOk X.K (Bs.nw ⟨F1, H1, MA A⟩) F' H' u d x → XW X u d σ H' := fun u d F2 H2 e2 ok => by
  have L1 := L.step e1
  have L2 := L1.after e2 hg hma
  obtain ⟨_, _, _, fo⟩ := slot_own L1 hg
  refine z x u d F2 H2 (Γ.set k .no) hx (e1.ff.trans e2.ff) L2 (ok.imp fun b h => ⟨?_, fun q o2 hq => ?_⟩)
  · exact h.elim (fun w => L1.nw w) fun m => (fo b (hma b m)).2
  · rcases get_set_slot hq with ⟨_, _, w⟩ | ⟨ne, hq'⟩
    · cases w
    · exact h.elim (fun w => L1.ne_own w hq') fun m => L1.ap k q o o2 ne hg hq' b (hma b m)
theorem eg_call (k : Nat) {n : Str} {kk : Nat} {ps : List Str} {S : Spec} {o : Own} {A : List Slot} {P : Ret → List Slot → Prop} {R : Exn → List Slot → Prop} {G : α → Own → Prop} (GH : Has X.prog X.w X.K X.mg X.base kk n ps S) (hr : Room kk X.A) (ha : EAb X Γ (e :: es) (.own o :: A)) (hA : noOwn A = true) (hg : Γ[k]? = some (.own o))
    (hG : ∀ x o', G x o' → o'.root = o.root) (hP : ∀ x o', G x o' → P (.val i x) (Γ.set k (.own o'))) (hS : ∀ P' R', (∀ x o', G x o' → P' (.chg i x [o'])) → (∀ y, R y (Γ.set k .no) → R' y) → S (.own o :: A) P' R') (hgl : autoParam (Gl X n) aRfl) (hd : autoParam ((n == ("__debug__" : Str)) = false) aDec)
    (he : autoParam (starEach (e :: es) X.env = (false, eval e X.env) :: starEach es X.env) aStar) (hpl : autoParam ((backTo pos (starEach es X.env)).any (·.1) = false) aPl) : EG X Γ (.Call (.Name n p) (e :: es) [] pos) P R := fun B F H σ Q L q z => by
  obtain ⟨f, fd, hm, hk, hb, GF⟩ := GH.ex
  refine WE.of (pe_callS (E := fun σ cls d H => XW X cls d σ H) GF hr hgl hm hk hb (fun σ => passAt takesW σ) paW hd he hpl) (ha B F H σ _ L fun vs F1 H1 e1 r1 => ?_)
  exact ⟨F1, _, (L.step e1).same, r1, apart_one hA, hS _ _ (fun x o' hx => borrow_rets hg L e1 (fun b m => ma_one hA m) hG hP q hx) fun y hy => borrow_exns hg L e1 (fun b m => ma_one hA m) z hy⟩
theorem st_dropG {P : Ret → List Slot → Prop} {R : Exn → List Slot → Prop} (he : EG X Γ e P R) (hr : ∀ r Γ', P r Γ' → ST X rest Γ' E) (hR : ∀ x Γ', R x Γ' → E.ex Γ' x) (hs : autoParam (swapsWith e none pos.line X.env = pure false) aRfl) : ST X (.Expr e pos :: rest) Γ E := fun B F H σ D L ed =>
  WP.cons (ps_expr peW hs) (he B F H σ _ L (fun r v F1 H1 Γ1 hP s1 L1 _ => hr r Γ1 hP B F1 H1 σ D L1 (ed.weak s1)) fun x u d F1 H1 Γ1 hx s1 L1 ok => ed.ex F1 H1 σ Γ1 x u d s1 (hR x Γ1 hx) L1 ok)
end
noncomputable def SlotV (K : PySem.W.Frag) (F : Hp) (v : V) : Slot → Prop
  | .val i x => i.rp K F v x
  | _ => False
theorem SlotV.mono {K : PySem.W.Frag} {F F' : Hp} (s : Same F F') {v : V} {t : Slot} (h : SlotV K F v t) : SlotV K F' v t := by
  cases t with
  | val i x => exact i.mono s h
  | no => exact h.elim
  | own o => exact h.elim
noncomputable def FOk (K : PySem.W.Frag) (F : Hp) : List (Str × V) → List (Str × Slot) → Prop
  | [], [] => True
  | p :: fv, q :: fs => p.1 = q.1 ∧ SlotV K F p.2 q.2 ∧ FOk K F fv fs
  | _, _ => False
theorem FOk.mono {K : PySem.W.Frag} {F F' : Hp} (s : Same F F') : ∀ {fv : List (Str × V)} {fs : List (Str × Slot)}, FOk K F fv fs → FOk K F' fv fs
  | [], [], _ => trivial
  | p :: fv, q :: fs, h => ⟨h.1, h.2.1.mono s, FOk.mono s h.2.2⟩
  | [], _ :: _, h => h.elim
  | _ :: _, [], h => h.elim
theorem lookup_ne {A : Type u} {f g : Str} {x : A} {l : List (Str × A)} (h : ¬ f = g) : ((g, x) :: l).lookup f = l.lookup f := by
  have hne : (f == g) = false := by simpa using h
  simp [List.lookup, hne]
theorem lookup_eq {A : Type u} {f : Str} {x : A} {l : List (Str × A)} : ((f, x) :: l).lookup f = some x := by simp [List.lookup]
theorem FOk.get {K : PySem.W.Frag} {F : Hp} {f : Str} {s : Slot} : ∀ {fv : List (Str × V)} {fs : List (Str × Slot)}, FOk K F fv fs → fs.lookup f = some s → ∃ v, fv.lookup f = some v ∧ SlotV K F v s
  | [], [], _, h => by cases h
  | [], _ :: _, h, _ => h.elim
  | _ :: _, [], h, _ => h.elim
  | (g, v) :: fv, (g', t) :: fs, ⟨e, r, tl⟩, h => by
    have e : g = g' := e
    subst e
    by_cases hf : f = g
    · subst hf
      rw [lookup_eq] at h ⊢
      cases h
      exact ⟨v, rfl, r⟩
    · rw [lookup_ne hf] at h ⊢
      exact FOk.get tl h
theorem FOk.no {K : PySem.W.Frag} {F : Hp} {f : Str} : ∀ {fv : List (Str × V)} {fs : List (Str × Slot)}, FOk K F fv fs → fs.lookup f = none → fv.lookup f = none
  | [], [], _, _ => rfl
  | [], _ :: _, h, _ => h.elim
  | _ :: _, [], h, _ => h.elim
  | (g, v) :: fv, (g', t) :: fs, ⟨e, r, tl⟩, h => by
    have e : g = g' := e
    subst e
    by_cases hf : f = g
    · subst hf
      rw [lookup_eq] at h
      cases h
    · rw [lookup_ne hf] at h ⊢
      exact FOk.no tl h
theorem FOk.len {K : PySem.W.Frag} {F : Hp} : ∀ {fv : List (Str × V)} {fs : List (Str × Slot)}, FOk K F fv fs → fv.length = fs.length
  | [], [], _ => rfl
  | _ :: _, _ :: _, h => by rw [List.length_cons, List.length_cons, FOk.len h.2.2]
  | [], _ :: _, h => h.elim
  | _ :: _, [], h => h.elim
theorem FOk.app {K : PySem.W.Frag} {F : Hp} {g : List (Str × V)} {g' : List (Str × Slot)} : ∀ {fv : List (Str × V)} {fs : List (Str × Slot)}, FOk K F fv fs → FOk K F g g' → FOk K F (fv ++ g) (fs ++ g')
  | [], [], _, h => h
  | _ :: _, _ :: _, h, h2 => ⟨h.1, h.2.1, FOk.app h.2.2 h2⟩
  | [], _ :: _, h, _ => h.elim
  | _ :: _, [], h, _ => h.elim
theorem putF_new {f : Str} {v : V} : ∀ {fv : List (Str × V)}, fv.lookup f = none → putF f v fv = fv ++ [(f, v)]
  | [], _ => rfl
  | (g, u) :: fv, h => by
    by_cases hf : f = g
    · subst hf; rw [lookup_eq] at h; cases h
    · rw [lookup_ne hf] at h
      show (if g = f then _ else _) = _
      rw [if_neg (Ne.symm hf), putF_new h]
      rfl
theorem FOk.put {K : PySem.W.Frag} {F : Hp} {f : Str} {v : V} {s : Slot} {fv : List (Str × V)} {fs : List (Str × Slot)} (h : FOk K F fv fs) (hn : fs.lookup f = none) (r : SlotV K F v s) : FOk K F (putF f v fv) (fs ++ [(f, s)]) := by
  rw [putF_new (h.no hn)]
  exact h.app ⟨rfl, r, trivial⟩
noncomputable def ownI (C a dx : Addr) (fs : List (Str × Slot)) : Own where
  fp := [a, dx]
  root := .ref a
  ok := fun K F H v => v = .ref a ∧ a ≠ dx ∧ H dx = some (.own a) ∧ ∃ fv, H a = some (.ins C dx fv) ∧ FOk K F fv fs
  stay := fun s k ⟨e, n, h1, fv, h2, r⟩ => ⟨e, n, k dx (by simp) _ h1, fv, k a (by simp) _ h2, r.mono s⟩
  there := fun ⟨_, _, h1, fv, h2, _⟩ b hb z => by
    have hb' : b = a ∨ b = dx := by simpa using hb
    rcases hb' with rfl | rfl
    · rw [h2] at z; cases z
    · rw [h1] at z; cases z
  rt := fun h => h.1
class Inst (α : Type) where
  cls : α → Str
  flds : α → List (Str × Slot)
noncomputable instance (priority := low) repInst {α : Type} [t : Inst α] : Rep α := ⟨fun K F v x => ∃ a C dx fv, v = .ref a ∧ PySem.W.nsIn K mainGlobals (t.cls x) = some (some (.ref C)) ∧ F a = some (.ins C dx fv) ∧ F dx = some (.own a) ∧ FOk K F fv (t.flds x),
  fun s ⟨a, C, dx, fv, e, n, h1, h2, r⟩ => ⟨a, C, dx, fv, e, n, s _ _ h1, s _ _ h2, r.mono s⟩⟩
theorem frozI {α : Type} [t : Inst α] {C a dx : Addr} {x : α} {K0 : PySem.W.Frag} (hC : ∀ K : PySem.W.Frag, K = K0 → PySem.W.nsIn K mainGlobals (t.cls x) = some (some (.ref C))) {F H : Hp} {v : V} (s : Same F H) (ok : (ownI C a dx (t.flds x)).ok K0 F H v) (f : ∀ b ∈ [a, dx], F b = none) : repInst.rp K0 (frz F H [a, dx]) v x := by
  obtain ⟨e, n, h1, fv, h2, r⟩ := ok
  exact ⟨a, C, dx, fv, e, hC K0 rfl, (frz_in (by simp)).trans h2, (frz_in (by simp)).trans h1, r.mono (frz_le f)⟩
end Tw
namespace Tw
open PySem PySem.Spec PyProof.Rows L2 TL
structure KCls (K : PySem.W.Frag) (n : Str) (C : Addr) : Prop where
  ns : PySem.W.nsIn K mainGlobals n = some (some (.ref C))
  cl : Cls K C
  mks : PySem.W.makesIn K C = true
  kp : PySem.W.keepIn K (.ref C) = true
  ty : PySem.W.typeIn K (.ref C) = some (.type "type")
  ha : PySem.W.findIn K (.ref C) "__class__" = some (some (.builtin "object.__class__"))
  hn : PySem.W.specialIn K (.builtin "object.__class__") "__get__" = some (some (.builtin "getset_descriptor.__get__"))
  ht : PySem.W.takesIn K (.builtin "object.__class__") = some true
  hm : PySem.W.mroIn K C (.type "object") = some true
noncomputable def OC (K : PySem.W.Frag) (mg : Str → Option Value) (n : Str) : Prop := ∃ C, KCls K n C ∧ mg n = some (.ref C)
noncomputable def NoA (K : PySem.W.Frag) (n f : Str) : Prop := ∀ C, PySem.W.nsIn K mainGlobals n = some (some (.ref C)) → NoAttr K C f
noncomputable def OSub (K : PySem.W.Frag) (n m : Str) (b : Bool) : Prop := ∀ C D, PySem.W.nsIn K mainGlobals n = some (some (.ref C)) → PySem.W.nsIn K mainGlobals m = some (some (.ref D)) → PySem.W.kitOne K (.ref C) (.ref D) = some b
theorem OSub.mk {K : PySem.W.Frag} {n m : Str} {b : Bool} {C D : Addr} (a1 : PySem.W.nsIn K mainGlobals n = some (some (.ref C))) (a2 : PySem.W.nsIn K mainGlobals m = some (some (.ref D))) (ht : PySem.W.typeIn K (.ref D) = some (.type "type")) (hd : PySem.W.hasDictIn K D = true)
    (h : PySem.W.subIn K (.ref C) (.ref D) = some b) (hb : C = D → b = true) : OSub K n m b := fun C' D' e1 e2 => by
  obtain rfl := ns_one a1 e1
  obtain rfl := ns_one a2 e2
  exact kitOf ht hd h fun e => hb (Value.ref.inj e)
structure Dm (K : PySem.W.Frag) (n m qual : Str) (st : Stmt) (ps : List Str) : Prop where
  ex : ∃ C f fd, PySem.W.nsIn K mainGlobals n = some (some (.ref C)) ∧ Meth K C m f ∧ Fun K m qual st f fd ∧ Binds K fd ps []
structure HasM (P : Program) (w : World) (K : PySem.W.Frag) (mg : Str → Option Value) (base : Heap) (k : Nat) (n m : Str) (ps : List Str) (S : Spec) : Prop where
  ex : ∀ C, PySem.W.nsIn K mainGlobals n = some (some (.ref C)) → ∃ f fd, Meth K C m f ∧ Binds K fd ps [] ∧ FnOk P w K mg base (L2.CX P w) k f fd ps (spOf K S)
noncomputable abbrev finI (o : Own) (Q : Ret → Prop) (R : Exn → Prop) : SE := ⟨fun Γ => ∃ o', Γ[0]? = some (.own o') ∧ o'.root = o.root ∧ Q (.chg repUnit () [o']), Q, fun _ => False, fun _ => False, fun _ => R⟩
section
variable {P : Program} {w : World} {K : PySem.W.Frag} {mg : Str → Option Value} {base : Heap}
theorem HasM.of {n m qual : Str} {st : Stmt} {N ps : List Str} {k : Nat} {S : Spec} (D : Dm K n m qual st ps) (sc : FnScope N ps (defScope st)) (len : ∀ A Q R, S A Q R → A.length = ps.length)
    (body : ∀ (f : Addr) (cdv : Value) (A : Around) (outer : List Env) (s : Shared) (H : Hp) (E : XK), Room k (A.deeper (envOfC qual (defScope st) s.heap.objs.size f cdv)) → ∀ Γ Q R, S Γ Q R →
      ST (cxOf (L2.CX P w) P w K mg base N qual (defScope st) f cdv A outer s H E) (defBody st) (Γ ++ List.replicate (N.length - ps.length) .no) (finX Q R)) :
    HasM P w K mg base (k + 1) n m ps S := by
  obtain ⟨C0, f, fd, hC0, hM, F, hb⟩ := D.ex
  refine ⟨fun C hC => ⟨f, fd, by obtain rfl := ns_one hC0 hC; exact hM, hb, F.okX sc (fun vs H Q E ⟨F0, A, s, r, ap, h⟩ => ?_) (fun cdv A outer s H vs Q E hr h => ?_)⟩⟩
  · rw [r.len]; exact len _ _ _ h
  · obtain ⟨F0, A0, sm, r, ap, h⟩ := h
    refine ⟨_, psW, ?_⟩
    have hl := len _ _ _ h
    have L0 := lc_start (K := K) sm r ap (N.length - ps.length)
    have L1 : Lc K ⟨F0, H, MA A0⟩ F0 H (L2.start N vs) (A0 ++ List.replicate (N.length - ps.length) .no) := by
      unfold L2.start
      rw [show vs.length = ps.length from r.len.trans hl]
      exact L0
    refine body f cdv A outer s H E hr A0 _ _ h ⟨F0, H, MA A0⟩ F0 H _ _ L1 ⟨fun F' H' σ' Γ' _ hq L => ?_, fun r v F' H' hq ex ok => hq v F' H' ex ok, fun _ _ _ _ _ z => z.elim, fun _ _ _ _ _ z => z.elim, fun F1 H1 σ' Γ' x u d _ hq L ok => ?_⟩
    · exact hq .non F' H' L.ext rfl
    · exact XW.of (L2.takes_of rfl rfl rfl rfl) (hq u d F1 H1 L.ext (ok.imp fun b h => h.1))
theorem HasM.ofI {n m qual : Str} {st : Stmt} {N ps : List Str} {k : Nat} {S : Spec} (D : Dm K n m qual st ps) (sc : FnScope N ps (defScope st)) (len : ∀ A Q R, S A Q R → A.length = ps.length)
    (body : ∀ (f : Addr) (cdv : Value) (A : Around) (outer : List Env) (s : Shared) (H : Hp) (E : XK), Room k (A.deeper (envOfC qual (defScope st) s.heap.objs.size f cdv)) → ∀ Γ Q R, S Γ Q R →
      ∃ o, ST (cxOf (L2.CX P w) P w K mg base N qual (defScope st) f cdv A outer s H E) (defBody st) (Γ ++ List.replicate (N.length - ps.length) .no) (finI o Q R)) :
    HasM P w K mg base (k + 1) n m ps S := by
  obtain ⟨C0, f, fd, hC0, hM, F, hb⟩ := D.ex
  refine ⟨fun C hC => ⟨f, fd, by obtain rfl := ns_one hC0 hC; exact hM, hb, F.okX sc (fun vs H Q E ⟨F0, A, s, r, ap, h⟩ => ?_) (fun cdv A outer s H vs Q E hr h => ?_)⟩⟩
  · rw [r.len]; exact len _ _ _ h
  · obtain ⟨F0, A0, sm, r, ap, h⟩ := h
    refine ⟨_, psW, ?_⟩
    have hl := len _ _ _ h
    have L0 := lc_start (K := K) sm r ap (N.length - ps.length)
    have L1 : Lc K ⟨F0, H, MA A0⟩ F0 H (L2.start N vs) (A0 ++ List.replicate (N.length - ps.length) .no) := by
      unfold L2.start
      rw [show vs.length = ps.length from r.len.trans hl]
      exact L0
    obtain ⟨o, hbody⟩ := body f cdv A outer s H E hr A0 _ _ h
    refine hbody ⟨F0, H, MA A0⟩ F0 H _ _ L1 ⟨fun F' H' σ' Γ' _ hq L => ?_, fun r v F' H' hq ex ok => hq v F' H' ex ok, fun _ _ _ _ _ z => z.elim, fun _ _ _ _ _ z => z.elim, fun F1 H1 σ' Γ' x u d _ hq L ok => ?_⟩
    · obtain ⟨o', hg, hr', hq⟩ := hq
      obtain ⟨v, ev, ok', f'⟩ := slot_own L hg
      refine hq .non F' H' L.ext ⟨rfl, fun o2 h2 => ?_, List.pairwise_singleton _ _⟩
      rw [List.mem_singleton.mp h2]
      exact ⟨by rw [← o'.rt ok']; exact ok', fun b hb => ⟨(f' b hb).2, (f' b hb).1⟩⟩
    · exact XW.of (L2.takes_of rfl rfl rfl rfl) (hq u d F1 H1 L.ext (ok.imp fun b h => h.1))
end
section
variable {X : Cx} {Γ : List Slot} {α β γ : Type} {i : Rep α} {j : Rep β} {pos p p2 : Pos} {e a b c : Expr} {es : List Expr} {E : SE} {rest body : List Stmt}
theorem st_setF (k : Nat) {n f : Str} {C ad dx : Addr} {fs : List (Str × Slot)} {x : α} {p' : Pos} (he : EV X Γ e x) (hr : ST X rest (Γ.set k (.own (ownI C ad dx (fs ++ [(f, .val i x)])))) E) (hc : Cls X.K C) (hn : NoAttr X.K C f) (hnew : fs.lookup f = none) (hz : fs.length < 1000 := by simp)
    (hg : autoParam (Γ[k]? = some (.own (ownI C ad dx fs))) aRfl) (hN : autoParam (X.N[k]? = some n) aRfl) (hv : autoParam (Vis X.env.scope n) aVis) (hd : autoParam ((n == ("__debug__" : Str)) = false) aDec) (hcd : autoParam ((n == ("__classdict__" : Str)) = false) aDec)
    (hs : autoParam (swapsWith e (some (.Attribute (.Name n p) f p')) pos.line X.env = pure false) aRfl) : ST X (.Assign [.Attribute (.Name n p) f p'] e pos :: rest) Γ E := fun B F H σ D L ed => by
  obtain ⟨v, ev, ok, _⟩ := slot_own L hg
  obtain ⟨rfl, _⟩ := ok
  refine WP.cons (ps_fld (pe_var hN hv hd hcd) peW hs) (he B F H σ _ L fun u F1 H1 e1 r1 => ⟨_, ev, ?_⟩)
  have L1 := L.step e1
  obtain ⟨v', ev', ⟨_, nn, h1, fv, h2, r⟩, f1⟩ := slot_own L1 hg
  refine ⟨ad, C, dx, fv, rfl, h2, hc, hn, by rw [r.len]; exact hz, ?_⟩
  refine hr B F1 _ σ D (L1.updO hg ev (fun b u hb q => ?_) (fun b hb => ?_) (fun b hb => .inl hb) ⟨rfl, nn, ?_, putF f u fv, upd_same, r.put hnew r1⟩) (ed.weak e1.ff)
  · rw [upd_ne (fun z => hb (by rw [z]; show ad ∈ [ad, dx]; simp))]; exact q
  · by_cases hba : b = ad
    · rw [hba, upd_same]; exact fun z => nomatch z
    · rw [upd_ne hba]
      have hb' : b = ad ∨ b = dx := by
        have : b ∈ [ad, dx] := hb
        simpa using this
      rcases hb' with rfl | rfl
      · exact absurd rfl hba
      · rw [h1]; exact fun z => nomatch z
  · rw [upd_ne (Ne.symm nn)]; exact h1
theorem ev_fld {α : Type} [t : Inst α] {x : α} {y : β} {n f : Str} (hc : OC X.K X.mg n) (hn : NoA X.K n f) (hx : t.cls x = n) (hf : (t.flds x).lookup f = some (.val j y)) (h : EV X Γ e x) (hb : autoParam (attributeBase e f X.env (eval e X.env) = eval e X.env) aRfl) : EV X Γ (.Attribute e f pos) y := fun B F H σ Q L q =>
  WE.of (pe_fld peW hb) (h B F H σ _ L fun v F1 H1 e1 r1 => by
    obtain ⟨C, kC, gC⟩ := hc
    obtain ⟨ad, C', dx, fv, rfl, hC, h1, h2, r⟩ := r1
    rw [hx] at hC
    obtain rfl := ns_one kC.ns hC
    obtain ⟨v, hv, rv⟩ := r.get hf
    exact ⟨ad, C', dx, fv, v, rfl, (L.step e1).same _ _ h1, kC.cl, hn C' kC.ns, hv, q v F1 H1 e1 rv⟩)
theorem ev_isiI {α : Type} [t : Inst α] {x : α} {n c : Str} {k : Bool} (hm : X.mg "isinstance" = none) (hx : OC X.K X.mg n) (hc : OC X.K X.mg c) (hk : OSub X.K n c k) (hn : t.cls x = n) (h : EV X Γ e x) (hg : autoParam (Gl X "isinstance") aRfl) (hgT : autoParam (Gl X c) aRfl) (hdT : autoParam ((c == ("__debug__" : Str)) = false) aDec)
    (hs : autoParam (starEach [e, .Name c p2] X.env = (false, eval e X.env) :: starEach [.Name c p2] X.env) aStar) (hs2 : autoParam (starEach [.Name c p2] X.env = (false, eval (.Name c p2) X.env) :: starEach [] X.env) aStar) (hpl : autoParam ((backTo pos (starEach [.Name c p2] X.env)).any (·.1) = false) aPl) :
    EV X Γ (.Call (.Name "isinstance" p) [e, .Name c p2] [] pos) k := fun B F H σ Q L q => by
  obtain ⟨D, xD, gD⟩ := hc
  obtain ⟨C, xC, gC⟩ := hx
  refine WE.of (pe_callB call_isi hg hm (by decide +kernel) (pa_cons peW (pa_cons (pe_glob (v := .ref D) hgT gD rfl hdT) pa_nil hs2) hs) (by decide) (by decide) hs hpl) (h B F H σ _ L fun v F1 H1 e1 r1 => ?_)
  obtain ⟨ad, C', dx, fv, rfl, hC, h1, h2, r⟩ := r1
  rw [hn] at hC
  obtain rfl := ns_one xC.ns hC
  exact ⟨.ref ad, .ref D, .ref C', .ref D, k, rfl, .own D, .base (.ins ((L.step e1).same _ _ h1) xC.cl xC.ha xC.hn xC.ht xC.hm), hk C' D xC.ns xD.ns, q _ F1 H1 e1 rfl⟩
theorem run_makeS {CX : CXT} {f C : Addr} {fd : FuncData} {ps : List Str} {sp : Sp} {k : Nat} {EE : XK} {pins : List (Addr × Obj)} {σ : L2.St} {H : Hp} {s : Shared} {Q : VK} {us : List Value} {vs : List V} (M : Mk X.K C f) (F : FnOk X.prog X.w X.K X.mg X.base CX k f fd ps sp) (hr : Room (k + 1) X.A) (hb : Binds X.K fd ps [])
    (hx : PassesAt CX X σ EE) (I : Inv X pins σ H s) (r : Vals vs us)
    (h : ∀ x dx, H x = none → H dx = none → dx ≠ x → sp (.ref x :: vs) (upd (upd H dx (.own x)) x (.ins C dx [])) (fun v H2 => v = .non ∧ Q (.ref x) H2) EE) :
    wpAny (model X.prog X.w) X.A (call (.ref C) us) (EP X pins σ Q) X.xe s := by
  have hq := h (s.heap.objs.size + 1) s.heap.objs.size (I.hok.fresh (Nat.le_succ _)) (I.hok.fresh (Nat.le_refl _)) (Nat.ne_of_lt (Nat.lt_succ_self _))
  have I2 := Inv.made (C := C) I
  have r2 : Vals (V.ref (s.heap.objs.size + 1) :: vs) (Value.ref (s.heap.objs.size + 1) :: us) := .cons rfl r
  have hl : (Value.ref (s.heap.objs.size + 1) :: us).length = ps.length := by
    have e := r2.length
    rw [F.len _ _ _ _ hq] at e
    exact e.symm
  have b := hb _ (Value.ref (s.heap.objs.size + 1) :: us) I2.kIn (by rw [List.append_nil]; exact hl)
  rw [List.append_nil] at b
  refine wpAny_call (make_map (f := f) I.kIn M.makes M.init (beq_iff_eq.mp M.fn) (codeAny_mono (F.run _ X.stack _ _ ⟨Value.ref (s.heap.objs.size + 1) :: us, []⟩ (Value.ref (s.heap.objs.size + 1) :: us) _ _ EE (hr.make C us [])
    (I2.env0.make C us []) b r2 hq) fun r s' hq' => ?_))
  cases r with
  | error e => exact hx pins _ _ e s' I2 hq'
  | ok fl =>
    cases fl with
    | ret u =>
      obtain ⟨v, H', I3, rv, ev, q3⟩ := I2.after hq'
      subst ev
      exact ⟨rv, ⟨V.ref (s.heap.objs.size + 1), H', I3, rfl, q3⟩⟩
    | next => exact False.elim hq'
    | brk => exact False.elim hq'
    | cont => exact False.elim hq'
theorem exx_make {n : Str} {k : Nat} {ps : List Str} {S : Spec} {A : List Slot} {P : Ret → Prop} {R : Exn → Prop} {fs : List (Str × Slot)} (hc : OC X.K X.mg n) (G : HasM X.prog X.w X.K X.mg X.base k n "__init__" ps S) (hr : Room (k + 1) X.A) (ha : EA X Γ (e :: es) A)
    (hS : ∀ C, PySem.W.nsIn X.K mainGlobals n = some (some (.ref C)) → ∀ ad dx, ∀ P' R', (P (.own fun o => ∃ ad dx, o = ownI C ad dx fs) → P' (.chg repUnit () [ownI C ad dx fs])) → (∀ y, R y → R' y) → S (.own (ownI C ad dx []) :: A) P' R') (hg : autoParam (Gl X n) aRfl) (hd : autoParam ((n == ("__debug__" : Str)) = false) aDec)
    (he : autoParam (starEach (e :: es) X.env = (false, eval e X.env) :: starEach es X.env) aStar) (hpl : autoParam ((backTo pos (starEach es X.env)).any (·.1) = false) aPl) : EXX X Γ (.Call (.Name n p) (e :: es) [] pos) P R := fun B F H σ Q L q z => by
  obtain ⟨C, kC, gC⟩ := hc
  obtain ⟨f, fd, hM, hb, GF⟩ := G.ex C kC.ns
  have M : Mk X.K C f := ⟨kC.mks, hM.at_, hM.fn, kC.kp⟩
  refine ⟨fun pins s I => ?_⟩
  refine wpAny_Call_Name_kw (ld_glob I hg gC ?_ hd)
  refine PySem.W.callWith_K (h₀ := X.base) I.ok.mod.kin kC.kp (thn ((ha B F H σ (fun vs H1 => ∃ F1, Ext F H F1 H1 ∧ VsOk X.K F1 vs A) L (fun vs F1 H1 e1 r1 => ⟨F1, e1, r1⟩)).go pos pins s I) fun us s1 ⟨vs, H1, I1, rvs, F1, e1, r1⟩ => ⟨I1.kIn, ?_⟩) he hpl
  refine run_makeS (EE := fun cls d H => XW X cls d σ H) M GF hr hb (passAt takesW σ) I1 rvs fun ad dx had hdx hne => ?_
  have s1' := (L.step e1).same
  have ea : Ext F1 H1 F1 (upd (upd H1 dx (.own ad)) ad (.ins C dx [])) := by
    have x1 := Ext.apart (o := .own ad) s1' hdx
    exact x1.trans (Ext.apart (o := .ins C dx []) x1.fh (by rw [upd_ne (Ne.symm hne)]; exact had))
  have e2 := e1.trans ea
  have nA : noOwn A = true := by
    refine List.all_eq_true.mpr fun t ht => ?_
    cases t with
    | own o => exact absurd ht (r1.no o)
    | no => rfl
    | val i x => rfl
  have maN : ∀ b, MA (.own (ownI C ad dx []) :: A) b → H1 b = none := fun b m => by
    have hb := ma_one nA m
    have hb' : b = ad ∨ b = dx := by
      have : b ∈ [ad, dx] := hb
      simpa using this
    rcases hb' with rfl | rfl
    · exact had
    · exact hdx
  have fN : ∀ b ∈ [ad, dx], F1 b = none := fun b hb => by
    have hb' : b = ad ∨ b = dx := by simpa using hb
    rcases hb' with rfl | rfl
    · exact s1'.free had
    · exact s1'.free hdx
  have toExt : ∀ {F2 H2}, ExtM (MA (.own (ownI C ad dx []) :: A)) F1 (upd (upd H1 dx (.own ad)) ad (.ins C dx [])) F2 H2 → Ext F H F2 H2 := fun {F2 H2} x => e1.trans (ea.thenM x maN)
  have toN : ∀ b, Bs.nw ⟨F1, upd (upd H1 dx (.own ad)) ad (.ins C dx []), MA (.own (ownI C ad dx []) :: A)⟩ b → H b = none := fun b h => h.elim (fun w => e1.hs.free (ea.hs.free w)) fun m => e1.hs.free (maN b m)
  refine ⟨F1, .own (ownI C ad dx []) :: A, ea.fh, ⟨⟨rfl, Ne.symm hne, ?_, [], upd_same, trivial⟩, fN, r1.toO⟩, apart_one nA, hS C kC.ns ad dx _ _ (fun hP v F2 H2 x2 ok => ?_) fun y hy u d F2 H2 x2 ok => ?_⟩
  · rw [upd_ne hne, upd_same]
  · obtain ⟨rv0, fo, _⟩ := ok
    obtain ⟨ok', f'⟩ := fo _ (List.mem_singleton.mpr rfl)
    exact ⟨rv0, q _ (.ref ad) F2 H2 hP (toExt x2) ⟨ownI C ad dx fs, ⟨ad, dx, rfl⟩, fun b hb => ⟨toN b (f' b hb).1, (f' b hb).2⟩, ok'⟩⟩
  · exact z y u d F2 H2 hy (toExt x2) (ok.imp toN)
theorem exx_meth {α : Type} [t : Inst α] {x : α} {n m : Str} {k : Nat} {ps : List Str} {S : Spec} {A : List Slot} {P : Ret → Prop} {R : Exn → Prop} {o : Expr} {apos : Pos} {pl : Sem Bool} (hc : OC X.K X.mg n) (G : HasM X.prog X.w X.K X.mg X.base k n m ps S) (hr : Room k X.A) (hx : t.cls x = n) (hm : (t.flds x).lookup m = none) (ho : EV X Γ o x) (ha : EA X Γ (e :: es) A)
    (hS : ∀ P' R', (∀ r, P r → P' r) → (∀ y, R y → R' y) → S (.val repInst x :: A) P' R') (hst : autoParam (starEach (e :: es) X.env = (false, eval e X.env) :: starEach es X.env) aStar) (hpl : autoParam ((backTo pos (starEach es X.env)).any (·.1) = false) aPl)
    (ht : autoParam (eval (.Call (.Attribute o m apos) (e :: es) [] pos) X.env = (do
      let ov ← eval o X.env
      standAt apos.atName
      let (f, first) ← holding [ov] (getMethod ov m pl)
      callWith pos f first (backTo pos (starEach (e :: es) X.env)) (backToKw pos (keywordEach [] X.env)))) aRfl) : EXX X Γ (.Call (.Attribute o m apos) (e :: es) [] pos) P R := fun B F H σ Q L q z => by
  obtain ⟨C, kC, gC⟩ := hc
  obtain ⟨f, fd, hM, hb, GF⟩ := G.ex C kC.ns
  refine ⟨fun pins s I => ?_⟩
  refine PySem.W.methodCall_KW (pl := pl) (thn ((ho B F H σ (fun v H1 => ∃ F1, Ext F H F1 H1 ∧ repInst.rp X.K F1 v x) L (fun v F1 H1 e1 r1 => ⟨F1, e1, r1⟩)).go pins s I) fun u s1 ⟨v, H1, I1, rv1, F1, e1, r1⟩ => ?_) ht
  obtain ⟨ad, C', dx, fv, rfl, hC, h1, h2, r⟩ := id r1
  rw [hx] at hC
  obtain rfl := ns_one kC.ns hC
  obtain rfl : u = Value.ref ad := rv1
  refine getmeth_ok I1 ((L.step e1).same _ _ h1) kC.cl hM (r.no hm) ?_
  refine PySem.W.callWith_K (first := [.ref ad]) (h₀ := X.base) I.ok.mod.kin hM.kp (thn ((ha B F1 H1 σ (fun vs H2 => ∃ F2, Ext F1 H1 F2 H2 ∧ VsOk X.K F2 vs A) (L.step e1) (fun vs F2 H2 e2 r2 => ⟨F2, e2, r2⟩)).go pos pins s1 I1) fun us s2 ⟨vs, H2, I2, rvs, F2, e2, r2⟩ => ⟨I2.kIn, ?_⟩) hst hpl
  have e12 := e1.trans e2
  have rA : VsOk X.K F2 (.ref ad :: vs) (.val repInst x :: A) := ⟨repInst.mono e2.ff r1, r2⟩
  refine run_fnS (E := fun σ cls d H => XW X cls d σ H) (us := .ref ad :: us) (vs := .ref ad :: vs) GF hr hb (passAt takesW σ) I2 (.cons rfl rvs) ?_
  exact ⟨F2, _, (L.step e12).same, rA.toO, rA.apart, hS _ _ (fun r hr v F3 H3 e3 ok => q r v F3 H3 hr (e12.thenM e3 fun _ m => (rA.ma m).elim) (ok.imp fun b h => e12.hs.free (h.elim id fun m => (rA.ma m).elim))) fun y hy u d F3 H3 e3 ok => z y u d F3 H3 hy (e12.thenM e3 fun _ m => (rA.ma m).elim) (ok.imp fun b h => e12.hs.free (h.elim id fun m => (rA.ma m).elim))⟩
theorem exx_meth0 {α : Type} [t : Inst α] {x : α} {n m : Str} {k : Nat} {ps : List Str} {S : Spec} {P : Ret → Prop} {R : Exn → Prop} {o : Expr} {apos : Pos} {pl : Sem Bool} (hc : OC X.K X.mg n) (G : HasM X.prog X.w X.K X.mg X.base k n m ps S) (hr : Room k X.A) (hx : t.cls x = n) (hm : (t.flds x).lookup m = none) (ho : EV X Γ o x)
    (hS : ∀ P' R', (∀ r, P r → P' r) → (∀ y, R y → R' y) → S [.val repInst x] P' R')
    (ht : autoParam (eval (.Call (.Attribute o m apos) [] [] pos) X.env = (do
      let ov ← eval o X.env
      standAt apos.atName
      let (f, first) ← holding [ov] (getMethod ov m pl)
      callWith pos f first (backTo pos (starEach [] X.env)) (backToKw pos (keywordEach [] X.env)))) aRfl) : EXX X Γ (.Call (.Attribute o m apos) [] [] pos) P R := fun B F H σ Q L q z => by
  obtain ⟨C, kC, gC⟩ := hc
  obtain ⟨f, fd, hM, hb, GF⟩ := G.ex C kC.ns
  refine ⟨fun pins s I => ?_⟩
  refine PySem.W.methodCall_KW (pl := pl) (thn ((ho B F H σ (fun v H1 => ∃ F1, Ext F H F1 H1 ∧ repInst.rp X.K F1 v x) L (fun v F1 H1 e1 r1 => ⟨F1, e1, r1⟩)).go pins s I) fun u s1 ⟨v, H1, I1, rv1, F1, e1, r1⟩ => ?_) ht
  obtain ⟨ad, C', dx, fv, rfl, hC, h1, h2, r⟩ := id r1
  rw [hx] at hC
  obtain rfl := ns_one kC.ns hC
  obtain rfl : u = Value.ref ad := rv1
  refine getmeth_ok I1 ((L.step e1).same _ _ h1) kC.cl hM (r.no hm) ?_
  have rA : VsOk X.K F1 [.ref ad] [.val repInst x] := ⟨r1, trivial⟩
  refine PySem.W.callWith_K0 (first := [.ref ad]) I1.kIn hM.kp (run_fnS (E := fun σ cls d H => XW X cls d σ H) (us := [.ref ad]) (vs := [.ref ad]) GF hr hb (passAt takesW σ) I1 (.cons rfl .nil) ?_)
  exact ⟨F1, _, (L.step e1).same, rA.toO, rA.apart, hS _ _ (fun r hr v F3 H3 e3 ok => q r v F3 H3 hr (e1.thenM e3 fun _ m => (rA.ma m).elim) (ok.imp fun b h => e1.hs.free (h.elim id fun m => (rA.ma m).elim))) fun y hy u d F3 H3 e3 ok => z y u d F3 H3 hy (e1.thenM e3 fun _ m => (rA.ma m).elim) (ok.imp fun b h => e1.hs.free (h.elim id fun m => (rA.ma m).elim))⟩
theorem ex_of_exx {P : Ret → Prop} (h : EXX X Γ e P fun _ => False) : EX X Γ e P := fun B F H σ Q L q => h B F H σ Q L q fun _ _ _ _ _ z => z.elim
noncomputable def CInit (K : PySem.W.Frag) (n : Str) : Prop := ∀ C f, PySem.W.nsIn K mainGlobals n = some (some (.ref C)) → PySem.W.findIn K (.ref C) "__init__" = some (some (.ref f)) →
  PySem.W.specialIn K (.ref C) "__getattribute__" = some (some (.builtin "type.__getattribute__")) ∧ PySem.W.readsIn K C (.type "type") = true ∧ PySem.W.findCls K (.ref C) (.type "type") "__init__" = some (.val (.ref f))
theorem CInit.mk {K : PySem.W.Frag} {n : Str} {C f : Addr} (a : PySem.W.nsIn K mainGlobals n = some (some (.ref C))) (b : PySem.W.findIn K (.ref C) "__init__" = some (some (.ref f))) (c1 : PySem.W.specialIn K (.ref C) "__getattribute__" = some (some (.builtin "type.__getattribute__"))) (c2 : PySem.W.readsIn K C (.type "type") = true)
    (c3 : PySem.W.findCls K (.ref C) (.type "type") "__init__" = some (.val (.ref f))) : CInit K n := fun C' f' e1 e2 => by
  obtain rfl := ns_one a e1
  rw [b] at e2
  cases e2
  exact ⟨c1, c2, c3⟩
theorem eg_cinit (k : Nat) {n : Str} {kk : Nat} {ps : List Str} {S : Spec} {o : Own} {A : List Slot} {P : Ret → List Slot → Prop} {R : Exn → List Slot → Prop} {G : Unit → Own → Prop} {p1 p2 : Pos} {pl : Sem Bool} (hc : OC X.K X.mg n) (hi : CInit X.K n) (GH : HasM X.prog X.w X.K X.mg X.base kk n "__init__" ps S) (hr : Room kk X.A)
    (ha : EAb X Γ (e :: es) (.own o :: A)) (hA : noOwn A = true) (hg : Γ[k]? = some (.own o)) (hG : ∀ x o', G x o' → o'.root = o.root) (hP : ∀ x o', G x o' → P (.val repUnit x) (Γ.set k (.own o'))) (hS : ∀ P' R', (∀ x o', G x o' → P' (.chg repUnit x [o'])) → (∀ y, R y (Γ.set k .no) → R' y) → S (.own o :: A) P' R') (hgl : autoParam (Gl X n) aRfl)
    (hd : autoParam ((n == ("__debug__" : Str)) = false) aDec)
    (ht : autoParam (eval (.Call (.Attribute (.Name n p1) "__init__" p2) (e :: es) [] pos) X.env = (do
      let ov ← eval (.Name n p1) X.env
      standAt p2.atName
      let (f, first) ← holding [ov] (getMethod ov "__init__" pl)
      callWith pos f first (backTo pos (starEach (e :: es) X.env)) (backToKw pos (keywordEach [] X.env)))) aRfl)
    (he : autoParam (starEach (e :: es) X.env = (false, eval e X.env) :: starEach es X.env) aStar) (hpl : autoParam ((backTo pos (starEach es X.env)).any (·.1) = false) aPl) : EG X Γ (.Call (.Attribute (.Name n p1) "__init__" p2) (e :: es) [] pos) P R := fun B F H σ Q L q z => by
  obtain ⟨C, kC, gC⟩ := hc
  obtain ⟨f, fd, hM, hb, GF⟩ := GH.ex C kC.ns
  obtain ⟨i1, i2, i3⟩ := hi C f kC.ns hM.at_
  refine ⟨fun pins s I => ?_⟩
  refine PySem.W.methodCall_KW (ld_glob I hgl gC ?_ hd) ht
  refine PySem.W.method_cls I.kIn i1 (PySem.W.cls_value I.kIn i2 i3 (by rfl) ?_)
  refine PySem.W.callWith_K (first := []) (h₀ := X.base) I.ok.mod.kin hM.kp (thn ((ha B F H σ (fun vs H1 => ∃ F1, Ext F H F1 H1 ∧ VsOkO X.K F1 H1 vs (.own o :: A)) L (fun vs F1 H1 e1 r1 => ⟨F1, e1, r1⟩)).go pos pins _ (I.tok _)) fun us s1 ⟨vs, H1, I1, rvs, F1, e1, r1⟩ => ⟨I1.kIn, ?_⟩) he hpl
  refine run_fnS (E := fun σ cls d H => XW X cls d σ H) GF hr hb (passAt takesW σ) I1 rvs ?_
  exact ⟨F1, _, (L.step e1).same, r1, apart_one hA, hS _ _ (fun x o' hx => borrow_rets hg L e1 (fun b m => ma_one hA m) hG hP q hx) fun y hy => borrow_exns hg L e1 (fun b m => ma_one hA m) z hy⟩
end
end Tw
namespace Tw
open PySem PySem.Spec PyProof.Rows L2 TL
noncomputable def HetOk (K : PySem.W.Frag) (F : Hp) : List V → List Slot → Prop
  | [], [] => True
  | v :: vs, s :: A => SlotV K F v s ∧ HetOk K F vs A
  | _, _ => False
theorem HetOk.mono {K : PySem.W.Frag} {F F' : Hp} (s : Same F F') : ∀ {vs : List V} {A : List Slot}, HetOk K F vs A → HetOk K F' vs A
  | [], [], _ => trivial
  | v :: vs, t :: A, h => ⟨h.1.mono s, HetOk.mono s h.2⟩
  | [], _ :: _, h => h.elim
  | _ :: _, [], h => h.elim
theorem HetOk.len {K : PySem.W.Frag} {F : Hp} : ∀ {vs : List V} {A : List Slot}, HetOk K F vs A → vs.length = A.length
  | [], [], _ => rfl
  | v :: vs, t :: A, h => by rw [List.length_cons, List.length_cons, HetOk.len h.2]
  | [], _ :: _, h => h.elim
  | _ :: _, [], h => h.elim
theorem HetOk.get {K : PySem.W.Frag} {F : Hp} : ∀ {vs : List V} {A : List Slot} {k : Nat} {s : Slot}, HetOk K F vs A → A[k]? = some s → ∃ v, vs[k]? = some v ∧ SlotV K F v s
  | [], [], _, _, _, h => by cases h
  | v :: vs, t :: A, 0, s, h, e => by
    have : t = s := by simpa using e
    subst this
    exact ⟨v, rfl, h.1⟩
  | v :: vs, t :: A, k + 1, s, h, e => by
    obtain ⟨u, hu, r⟩ := HetOk.get (k := k) h.2 (by simpa using e)
    exact ⟨u, by simpa using hu, r⟩
  | [], _ :: _, _, _, h, _ => h.elim
  | _ :: _, [], _, _, h, _ => h.elim
theorem HetOk.set {K : PySem.W.Frag} {F : Hp} {v : V} {s : Slot} (r : SlotV K F v s) : ∀ {vs : List V} {A : List Slot} (k : Nat), HetOk K F vs A → HetOk K F (vs.set k v) (A.set k s)
  | [], [], _, _ => trivial
  | _ :: _, _ :: _, 0, h => ⟨r, h.2⟩
  | _ :: _, _ :: _, k + 1, h => ⟨h.1, HetOk.set r k h.2⟩
  | [], _ :: _, _, h => h.elim
  | _ :: _, [], _, h => h.elim
class Het (α : Type) where
  els : α → List Slot
noncomputable instance (priority := low) repHet {α : Type} [t : Het α] : Rep α := ⟨fun K F v x => ∃ a vs, v = .ref a ∧ F a = some (.lst vs) ∧ HetOk K F vs (t.els x), fun s ⟨a, vs, e, h, r⟩ => ⟨a, vs, e, s _ _ h, r.mono s⟩⟩
section
variable {X : Cx} {Γ : List Slot} {α β γ : Type} {i : Rep α} {j : Rep β} {pos p p2 : Pos} {e a b c : Expr} {es : List Expr} {E : SE} {rest body : List Stmt}
theorem st_retO (k : Nat) {n : Str} {o : Own} {P0 : Own → Prop} (hP : E.rt (.own P0)) (ho : P0 o) (hg : autoParam (Γ[k]? = some (.own o)) aRfl) (hN : autoParam (X.N[k]? = some n) aRfl) (hv : autoParam (Vis X.env.scope n) aVis) (hd : autoParam ((n == ("__debug__" : Str)) = false) aDec)
    (hcd : autoParam ((n == ("__classdict__" : Str)) = false) aDec) : ST X (.Return (some (.Name n p)) pos :: rest) Γ E := fun B F H σ D L ed => by
  obtain ⟨v, ev, ok, f⟩ := slot_own L hg
  exact WP.cons (ps_ret (pe_var hN hv hd hcd)) ⟨v, ev, ed.rt (.own P0) v F H hP L.ext ⟨o, ho, fun b hb => ⟨(f b hb).2, (f b hb).1⟩, ok⟩⟩
theorem Lc.freezeN {K : PySem.W.Frag} {B : Bs} {F H : Hp} {σ : L2.St} (L : Lc K B F H σ Γ) {ps : List Addr} (f : ∀ b ∈ ps, B.nw b ∧ Free Γ b ∧ F b = none) : Lc K B (frz F H ps) H σ Γ ∧ Same F (frz F H ps) := by
  have f0 : ∀ b ∈ ps, F b = none := fun b hb => (f b hb).2.2
  refine ⟨⟨⟨L.ext.ff.trans (frz_le f0), frz_same L.same, L.ext.hh, fun a hm h1 h2 => ?_, L.ext.th⟩, L.len, fun q t hq => ?_, L.ap⟩, frz_le f0⟩
  · have na : a ∉ ps := fun hb => (f a hb).1.elim (fun z => h2 z) hm
    rw [frz_out na]
    exact L.ext.nwM a hm h1 h2
  · have old := L.ok q t hq
    cases t with
    | no => trivial
    | val i x => obtain ⟨v, e2, r⟩ := old; exact ⟨v, e2, i.mono (frz_le f0) r⟩
    | own o2 =>
      obtain ⟨u, eu, ok2, f2⟩ := old
      exact ⟨u, eu, o2.stay (frz_le f0) (fun _ _ _ h => h) ok2, fun b hb => ⟨by rw [frz_out (fun hb2 => (f b hb2).2.1 q o2 hq hb)]; exact (f2 b hb).1, (f2 b hb).2⟩⟩
theorem st_setFR {n f : Str} {p' : Pos} {R : Exn → Prop} (he : EXX X Γ e (fun _ => False) R) (hR : ∀ x, R x → E.ex Γ x) (k : Nat) (hN : autoParam (X.N[k]? = some n) aRfl) (hv : autoParam (Vis X.env.scope n) aVis) (hd : autoParam ((n == ("__debug__" : Str)) = false) aDec) (hcd : autoParam ((n == ("__classdict__" : Str)) = false) aDec)
    (hs : autoParam (swapsWith e (some (.Attribute (.Name n p) f p')) pos.line X.env = pure false) aRfl) : ST X (.Assign [.Attribute (.Name n p) f p'] e pos :: rest) Γ E := fun B F H σ D L ed =>
  WP.cons (ps_fld (pe_var hN hv hd hcd) peW hs) (he B F H σ _ L (fun r v F1 H1 er e1 r1 => er.elim) fun x u d F1 H1 hx e1 ok => ed.exS (Same.refl F) (hR x hx) L e1 ok)
theorem en_meth0 {α : Type} [t : Inst α] {x : α} {ys : List β} {n m : Str} {k : Nat} {ps : List Str} {S : Spec} {o : Expr} {apos : Pos} {pl : Sem Bool} (hc : OC X.K X.mg n) (G : HasM X.prog X.w X.K X.mg X.base k n m ps S) (hr : Room k X.A) (hx : t.cls x = n) (hm : (t.flds x).lookup m = none) (ho : EV X Γ o x) (hS : ∀ P' R', P' (.new j ys) → S [.val repInst x] P' R')
    (ht : autoParam (eval (.Call (.Attribute o m apos) [] [] pos) X.env = (do
      let ov ← eval o X.env
      standAt apos.atName
      let (f, first) ← holding [ov] (getMethod ov m pl)
      callWith pos f first (backTo pos (starEach [] X.env)) (backToKw pos (keywordEach [] X.env)))) aRfl) : EN X Γ (.Call (.Attribute o m apos) [] [] pos) ys :=
  en_of_ex (ex_of_exx (exx_meth0 hc G hr hx hm ho (fun P' R' h _ => hS P' R' (h _ rfl)) ht))
end
end Tw
namespace Tw
open PySem PySem.Spec PyProof.Rows L2 TL
section
variable {X : Cx} {Γ : List Slot} {α β γ : Type} {i : Rep α} {j : Rep β} {pos p p2 : Pos} {e a b c : Expr} {es : List Expr} {E : SE} {rest body : List Stmt}
theorem exx_makeV {α : Type} [t : Inst α] {x : α} {n : Str} {k : Nat} {ps : List Str} {S : Spec} {A : List Slot} {R : Exn → Prop} (hc : OC X.K X.mg n) (G : HasM X.prog X.w X.K X.mg X.base k n "__init__" ps S) (hr : Room (k + 1) X.A) (hx : t.cls x = n) (ha : EA X Γ (e :: es) A)
    (hS : ∀ C, PySem.W.nsIn X.K mainGlobals n = some (some (.ref C)) → ∀ ad dx, ∀ P' R', P' (.chg repUnit () [ownI C ad dx (t.flds x)]) → (∀ y, R y → R' y) → S (.own (ownI C ad dx []) :: A) P' R') (hg : autoParam (Gl X n) aRfl) (hd : autoParam ((n == ("__debug__" : Str)) = false) aDec)
    (he : autoParam (starEach (e :: es) X.env = (false, eval e X.env) :: starEach es X.env) aStar) (hpl : autoParam ((backTo pos (starEach es X.env)).any (·.1) = false) aPl) : EXX X Γ (.Call (.Name n p) (e :: es) [] pos) (fun r => r = .val repInst x) R := fun B F H σ Q L q z => by
  obtain ⟨C, kC, gC⟩ := id hc
  refine exx_make (P := fun r => r = .own fun o => ∃ ad dx, o = ownI C ad dx (t.flds x)) (R := R) (fs := t.flds x) hc G hr ha (fun C' e' ad dx P' R' h1 h2 => by
    obtain rfl := ns_one kC.ns e'
    exact hS _ e' ad dx P' R' (h1 rfl) h2) hg hd he hpl B F H σ _ L (fun r v F1 H1 er e1 r1 => ?_) z
  subst er
  obtain ⟨o, ⟨ad, dx, rfl⟩, f, ok1⟩ := r1
  have s1 := (L.step e1).same
  have f0 : ∀ b ∈ [ad, dx], F1 b = none := fun b hb => (f b hb).2
  refine q _ v (frz F1 H1 [ad, dx]) H1 rfl ⟨e1.ff.trans (frz_le f0), frz_same s1, e1.hh, fun b _ h1 h2 => by
    rw [frz_out (ps := [ad, dx]) (fun hb => h2 (f b hb).1)]; exact e1.nw b h1 h2, fun _ z => z.elim⟩ ?_
  exact frozI (K0 := X.K) (fun K e => by rw [e, hx]; exact kC.ns) s1 ok1 f0
theorem ev_makeV {α : Type} [t : Inst α] {x : α} {n : Str} {k : Nat} {ps : List Str} {S : Spec} {A : List Slot} (hc : OC X.K X.mg n) (G : HasM X.prog X.w X.K X.mg X.base k n "__init__" ps S) (hr : Room (k + 1) X.A) (hx : t.cls x = n) (ha : EA X Γ (e :: es) A)
    (hS : ∀ C, PySem.W.nsIn X.K mainGlobals n = some (some (.ref C)) → ∀ ad dx, ∀ P' R', P' (.chg repUnit () [ownI C ad dx (t.flds x)]) → S (.own (ownI C ad dx []) :: A) P' R') (hg : autoParam (Gl X n) aRfl) (hd : autoParam ((n == ("__debug__" : Str)) = false) aDec)
    (he : autoParam (starEach (e :: es) X.env = (false, eval e X.env) :: starEach es X.env) aStar) (hpl : autoParam ((backTo pos (starEach es X.env)).any (·.1) = false) aPl) : EV X Γ (.Call (.Name n p) (e :: es) [] pos) x :=
  ev_of_ex (ex_of_exx (exx_makeV (R := fun _ => False) hc G hr hx ha (fun C h ad dx P' R' h1 _ => hS C h ad dx P' R' h1) hg hd he hpl))
theorem st_dropR {R : Exn → Prop} (he : EXX X Γ e (fun _ => False) R) (hR : ∀ x, R x → E.ex Γ x) (hs : autoParam (swapsWith e none pos.line X.env = pure false) aRfl) : ST X (.Expr e pos :: rest) Γ E := fun B F H σ D L ed =>
  WP.cons (ps_expr peW hs) (he B F H σ _ L (fun r v F1 H1 z _ _ => z.elim) fun x u d F1 H1 hx e1 ok => ed.exS (Same.refl F) (hR x hx) L e1 ok)
theorem ev_of_en_aux {B : Bs} {F H F' H' : Hp} {σ : L2.St} {Q : VK} {xs : List α} {v : V} {G : List α → Prop} (hG : G xs) (L : Lc X.K B F H σ Γ) (ex : Ext F H F' H') (r1 : ROk X.K (Nw H) F' H' v (.new i xs)) (q : ∀ (r : Ret) (v : V) (F' H' : Hp), (∃ xs, G xs ∧ r = .val repList xs) → Ext F H F' H' → ROk X.K (Nw H) F' H' v r → Q v H') : Q v H' := by
  obtain ⟨a, vs, rfl, ha, fa, h', p⟩ := r1
  have sm : Same F' (upd F' a (.lst vs)) := fun b u e => by rw [upd_ne (ne_of_none e fa)]; exact e
  refine q (.val repList xs) (.ref a) (upd F' a (.lst vs)) H' ⟨xs, hG, rfl⟩ ⟨ex.ff.trans sm, fun b u e => ?_, ex.hh, fun b _ h1 h2 => ?_, fun _ z => z.elim⟩ ⟨a, vs, rfl, upd_same, Paired.mapP p fun _ _ q => i.mono sm q⟩
  · by_cases hb : b = a
    · subst hb; rw [upd_same] at e; rw [← e]; exact h'
    · rw [upd_ne hb] at e; exact ex.fh _ _ e
  · rw [upd_ne (fun z => by subst z; exact h2 ha)]; exact ex.nw b h1 h2
theorem exv_of_exn {G : List α → Prop} (h : EX X Γ e (fun r => ∃ xs, G xs ∧ r = .new i xs)) : EX X Γ e (fun r => ∃ xs, G xs ∧ r = .val repList xs) := fun B F H σ Q L q =>
  h B F H σ _ L fun r v F1 H1 er e1 r1 => by
    obtain ⟨xs, hG, rfl⟩ := er
    refine ev_of_en_aux hG L e1 r1 q
theorem ev_max {x y : Int} (hm : X.mg "max" = none) (ha : EV X Γ a x) (hb : EV X Γ b y) (hc : autoParam (X.calm = true) aRfl) (hg : autoParam (Gl X "max") aRfl)
    (hs : autoParam (starEach [a, b] X.env = (false, eval a X.env) :: starEach [b] X.env) aStar) (hs2 : autoParam (starEach [b] X.env = (false, eval b X.env) :: starEach [] X.env) aStar) (hpl : autoParam ((backTo pos (starEach [b] X.env)).any (·.1) = false) aPl) :
    EV X Γ (.Call (.Name "max" p) [a, b] [] pos) (if y > x then y else x) := fun B F H σ Q L q =>
  WE.of (pe_callB (call_max2 hc) hg hm boot_max (pa_cons peW (pa_cons peW pa_nil hs2) hs) (by decide) (by decide) hs hpl) (ha B F H σ _ L fun v F1 H1 e1 r1 => hb B F1 H1 σ _ (L.step e1) fun u F2 H2 e2 r2 => by
    obtain rfl : v = .int x := r1
    obtain rfl : u = .int y := r2
    exact ⟨x, y, rfl, q _ F2 H2 (e1.trans e2) rfl⟩)
end
end Tw
namespace Tw
open PySem PySem.Spec PyProof.Rows L2 TL
section
variable {X : Cx} {Γ : List Slot} {α β γ : Type} {i : Rep α} {j : Rep β} {pos p p2 : Pos} {e a b c : Expr} {es : List Expr} {E : SE} {rest body : List Stmt}
theorem eqV_str {x y : Tx} : eqV (.str (sx x)) (.str (sx y)) = decide (x = y) := by
  show decide (sx x = sx y) = _
  exact decide_eq_decide.mpr ⟨fun h => by rw [← tl_sx x, h, tl_sx], fun h => by rw [h]⟩
theorem inV_strs {x : Tx} {ys : List Tx} : inV (.str (sx x)) (ys.map fun t => V.str (sx t)) = decide (x ∈ ys) := by
  induction ys with
  | nil => rfl
  | cons y ys ih =>
    show (eqV _ _ || inV _ _) = _
    rw [ih, eqV_str]
    by_cases h : y = x
    · subst h; simp
    · simp [h, Ne.symm h]
theorem pd_strs {K : PySem.W.Frag} {F : Hp} : ∀ {vs : List V} {ys : List Tx}, Paired (fun u x => repTx.rp K F u x) vs ys → vs = ys.map fun t => V.str (sx t)
  | _, _, .nil => rfl
  | _, _, .cons r p => by
    rw [pd_strs p, List.map_cons]
    congr 1
theorem o_notInLS {x : Tx} {ys : List Tx} : OB X (compareOp .NotIn) x ys (!decide (x ∈ ys)) := fun F H v u Q s r1 r2 q pins s' σ va vb I rv1 rv2 => by
  obtain rfl : v = .str (sx x) := r1
  obtain ⟨ad, vs, rfl, h1, pr⟩ := r2
  obtain rfl := pd_strs pr
  refine op_notIn_seq pins s' σ H _ _ va vb Q I rv1 rv2 ⟨ad, _, rfl, .inl (sq_of s h1), rfl, ?_, ?_⟩
  · rw [List.all_map]; exact List.all_eq_true.mpr fun _ _ => rfl
  · rw [if_pos rfl, inV_strs]
    exact q _ F H (Ext.refl s) rfl
end
end Tw
namespace Tw
open PySem PySem.Spec PyProof.Rows L2 TL
structure Dic (κ α : Type) where
  l : List (κ × α)
section
variable {κ : Type} [DecidableEq κ] {α : Type}
noncomputable def look (l : List (κ × α)) (k : κ) : Option α := (l.find? fun p => decide (p.1 = k)).map (·.2)
noncomputable def put (l : List (κ × α)) (k : κ) (v : α) : List (κ × α) := if (l.any fun p => decide (p.1 = k)) = true then l.map (fun p => if p.1 = k then (p.1, v) else p) else l ++ [(k, v)]
theorem look_nil {k : κ} : look ([] : List (κ × α)) k = none := rfl
theorem look_pos {p : κ × α} {r : List (κ × α)} {k : κ} (e : p.1 = k) : look (p :: r) k = some p.2 := by simp [look, List.find?_cons, e]
theorem look_neg {p : κ × α} {r : List (κ × α)} {k : κ} (e : ¬ p.1 = k) : look (p :: r) k = look r k := by simp [look, List.find?_cons, e]
theorem look_any (k : κ) : ∀ l : List (κ × α), (l.any fun p => decide (p.1 = k)) = (look l k).isSome
  | [] => rfl
  | p :: r => by
    rw [List.any_cons]
    by_cases e : p.1 = k
    · simp only [look_pos e, decide_eq_true e, Bool.true_or, Option.isSome_some]
    · rw [look_neg e, decide_eq_false e, Bool.false_or]; exact look_any k r
theorem look_map (k j : κ) (y : α) : ∀ l : List (κ × α), look (l.map fun p => if p.1 = k then (p.1, y) else p) j = (look l j).map fun x => if j = k then y else x
  | [] => rfl
  | p :: r => by
    have ih := look_map k j y r
    rw [List.map_cons]
    by_cases h : p.1 = k
    · rw [if_pos h]
      by_cases e : p.1 = j
      · rw [look_pos (p := (p.1, y)) e, look_pos e, Option.map_some, if_pos (e.symm.trans h)]
      · rw [look_neg (p := (p.1, y)) e, look_neg e, ih]
    · rw [if_neg h]
      by_cases e : p.1 = j
      · rw [look_pos e, look_pos e, Option.map_some, if_neg fun z => h (e.trans z)]
      · rw [look_neg e, look_neg e, ih]
theorem look_snoc (k j : κ) (y : α) : ∀ l : List (κ × α), look l k = none → look (l ++ [(k, y)]) j = if j = k then some y else look l j
  | [], _ => by
    rw [List.nil_append]
    by_cases e : k = j
    · rw [if_pos e.symm]; exact look_pos (p := (k, y)) e
    · rw [if_neg fun z => e z.symm]; exact look_neg (p := (k, y)) e
  | p :: r, hn => by
    have hk : ¬ p.1 = k := fun z => by rw [look_pos z] at hn; cases hn
    rw [look_neg hk] at hn
    have ih := look_snoc k j y r hn
    rw [List.cons_append]
    by_cases e : p.1 = j
    · rw [look_pos e, look_pos e, if_neg fun z => hk (e.trans z)]
    · rw [look_neg e, look_neg e, ih]
theorem look_put (l : List (κ × α)) (k j : κ) (y : α) : look (put l k y) j = if j = k then some y else look l j := by
  unfold put
  by_cases a : (l.any fun p => decide (p.1 = k)) = true
  · rw [if_pos a, look_map]
    rw [look_any] at a
    by_cases e : j = k
    · subst e
      obtain ⟨x, hx⟩ := Option.isSome_iff_exists.mp a
      rw [hx, Option.map_some, if_pos rfl]; simp
    · rw [if_neg e]
      cases look l j with
      | none => rfl
      | some x => simp [e]
  · rw [if_neg a]
    refine look_snoc k j y l ?_
    rw [look_any] at a
    cases q : look l k with
    | none => rfl
    | some x => rw [q] at a; exact (a rfl).elim
theorem put_keys {l : List (κ × α)} {k : κ} {v : α} : (put l k v).map (·.1) = if (look l k).isSome then l.map (·.1) else l.map (·.1) ++ [k] := by
  unfold put
  rw [look_any]
  cases (look l k).isSome with
  | true =>
    rw [if_pos rfl, if_pos rfl, List.map_map]
    refine List.map_congr_left fun p _ => ?_
    show (if p.1 = k then (p.1, v) else p).1 = p.1
    split <;> rfl
  | false => rw [if_neg (by decide), if_neg (by decide), List.map_append]; rfl
theorem look_mem {l : List (κ × α)} {k : κ} {v : α} (h : look l k = some v) : (k, v) ∈ l := by
  induction l with
  | nil => cases h
  | cons p r ih =>
    by_cases e : p.1 = k
    · rw [look_pos e] at h
      obtain ⟨a, b⟩ := p
      cases Option.some.inj h
      cases (show a = k from e)
      exact List.mem_cons_self ..
    · rw [look_neg e] at h
      exact List.mem_cons_of_mem _ (ih h)
theorem look_none {l : List (κ × α)} {k : κ} : look l k = none ↔ k ∉ l.map (·.1) := by
  induction l with
  | nil => simp [look_nil]
  | cons p r ih =>
    by_cases e : p.1 = k
    · rw [look_pos e]; simp [e]
    · rw [look_neg e, ih, List.map_cons, List.mem_cons]
      constructor
      · rintro h (z | z)
        · exact e z.symm
        · exact h z
      · exact fun h z => h (.inr z)
theorem look_of_mem {l : List (κ × α)} {k : κ} {v : α} (nd : (l.map (·.1)).Nodup) (h : (k, v) ∈ l) : look l k = some v := by
  induction l with
  | nil => cases h
  | cons p r ih =>
    rw [List.map_cons, List.nodup_cons] at nd
    rcases List.mem_cons.mp h with e | h
    · subst e; exact look_pos rfl
    · rw [look_neg fun z => nd.1 (z ▸ List.mem_map.mpr ⟨_, h, rfl⟩)]
      exact ih nd.2 h
theorem put_nodup {l : List (κ × α)} {k : κ} {v : α} (nd : (l.map (·.1)).Nodup) : ((put l k v).map (·.1)).Nodup := by
  rw [put_keys]
  cases h : look l k with
  | some x => exact nd
  | none =>
    show (l.map (·.1) ++ [k]).Nodup
    rw [List.nodup_append]
    refine ⟨nd, List.nodup_cons.mpr ⟨by simp, List.nodup_nil⟩, fun a ha b hb => ?_⟩
    rw [List.mem_singleton] at hb
    subst hb
    exact fun z => look_none.mp h (z ▸ ha)
theorem valV_inj {μ : Type} [DecidableEq μ] {e : κ → μ} (inj : ∀ x y, e x = e y → x = y) (k : κ) : ∀ kvs : List (κ × V), valV (kvs.map fun p => (e p.1, p.2)) (e k) = valV kvs k
  | [] => rfl
  | p :: r => by
    rw [List.map_cons]
    by_cases h : p.1 = k
    · rw [valV_pos (p := (e p.1, p.2)) (congrArg e h), valV_pos h]
    · rw [valV_neg (p := (e p.1, p.2)) fun z => h (inj _ _ z), valV_neg h, valV_inj inj k r]
theorem putK_inj {μ : Type} [DecidableEq μ] {e : κ → μ} (inj : ∀ x y, e x = e y → x = y) (k : κ) (v : V) (kvs : List (κ × V)) : putK (kvs.map fun p => (e p.1, p.2)) (e k) v = (putK kvs k v).map fun p => (e p.1, p.2) := by
  unfold putK
  rw [List.any_map]
  have : (fun p : κ × V => decide (p.1 = k)) = ((fun kv : μ × V => decide (kv.1 = e k)) ∘ fun p : κ × V => (e p.1, p.2)) := by
    funext p
    exact decide_eq_decide.mpr ⟨fun z => congrArg e z, fun z => inj _ _ z⟩
  rw [← this]
  split
  · rw [List.map_map, List.map_map]
    refine List.map_congr_left fun p _ => ?_
    show (if e p.1 = e k then (e p.1, v) else (e p.1, p.2)) = (fun p : κ × V => (e p.1, p.2)) (if p.1 = k then (p.1, v) else p)
    by_cases h : p.1 = k
    · rw [if_pos h, if_pos (congrArg e h)]
    · rw [if_neg h, if_neg fun z => h (inj _ _ z)]
  · rw [List.map_append]; rfl
end
class DKey (κ : Type) [i : Rep κ] [DecidableEq κ] where
  ho : List (κ × V) → HO
  empty : ∀ (X : Cx) (pos : Pos), PE X (.Dict [] [] pos) (fun _ H Q => ∀ p, H p = none → Q (.ref p) (upd H p (ho [])))
  get : ∀ {K : PySem.W.Frag} {F H : Hp} {a : Addr} {v : V} {x : κ} {kvs : List (κ × V)}, Same F H → H a = some (ho kvs) → i.rp K F v x → DGet H a v (valV kvs x)
  put : ∀ {K : PySem.W.Frag} {F H : Hp} {a : Addr} {y : V} {x : κ} {kvs : List (κ × V)} {v : V}, Same F H → H a = some (ho kvs) → i.rp K F y x → kvs.length < sizeLine → DPut H a y v (upd H a (ho (putK kvs x v)))
  isD : ∀ {H : Hp} {a : Addr} {kvs : List (κ × V)}, H a = some (ho kvs) → IsD H a
noncomputable def hoK {κ : Type} (e : κ → Key) (kvs : List (κ × V)) : HO := .dK (kvs.map fun p => (e p.1, p.2))
noncomputable def hoT {κ : Type} (e : κ → List Key) (kvs : List (κ × V)) : HO := .dT (kvs.map fun p => (e p.1, p.2))
noncomputable def DKey.ofK {κ : Type} [i : Rep κ] [DecidableEq κ] (e : κ → Key) (inj : ∀ x y, e x = e y → x = y) (h : ∀ {K F v x}, i.rp K F v x → v = kV (e x)) : DKey κ :=
  ⟨hoK e, fun X pos => pe_dnewK, fun {K F H a v x kvs} s ha r => by
    rw [h r, ← valV_inj inj x kvs]; exact DGet.k ha, fun {K F H a y x kvs v} s ha r hz => by
    rw [h r]
    unfold hoK
    rw [← putK_inj inj]
    exact DPut.k ha (by rw [List.length_map]; exact hz), fun ha => .inl ⟨_, .inl ha⟩⟩
noncomputable def DKey.ofT {κ : Type} [i : Rep κ] [DecidableEq κ] (e : κ → List Key) (inj : ∀ x y, e x = e y → x = y) (h : ∀ {K F v x}, i.rp K F v x → ∃ b, v = .ref b ∧ F b = some (.tup ((e x).map kV))) : DKey κ :=
  ⟨hoT e, fun X pos => pe_dnewT, fun {K F H a v x kvs} s ha r => by
    obtain ⟨b, rfl, hb⟩ := h r
    rw [← valV_inj inj x kvs]; exact DGet.t ha (s _ _ hb), fun {K F H a y x kvs v} s ha r hz => by
    obtain ⟨b, rfl, hb⟩ := h r
    unfold hoT
    rw [← putK_inj inj]
    exact DPut.t ha (s _ _ hb) (by rw [List.length_map]; exact hz), fun ha => .inr ⟨_, .inl ha⟩⟩
theorem inr_sx (x y : Tx) (h : (Sum.inr (sx x) : Key) = Sum.inr (sx y)) : x = y := sx_inj (Sum.inr.inj h)
noncomputable instance dkTx : DKey Tx := .ofK (fun x => .inr (sx x)) inr_sx fun {_ _ v x} h => h
noncomputable instance dkInt : DKey Int := .ofK (fun x => .inl x) (fun _ _ h => Sum.inl.inj h) fun {_ _ v x} h => h
class KPart (α : Type) [i : Rep α] where
  en : α → Key
  inj : ∀ x y, en x = en y → x = y
  rp : ∀ {K F v x}, i.rp K F v x → v = kV (en x)
noncomputable instance : KPart Tx := ⟨fun x => .inr (sx x), inr_sx, fun {_ _ v x} h => h⟩
noncomputable instance : KPart Int := ⟨fun x => .inl x, fun _ _ h => Sum.inl.inj h, fun {_ _ v x} h => h⟩
noncomputable instance dkPair {α β : Type} [i : Rep α] [j : Rep β] [DecidableEq α] [DecidableEq β] [p : KPart α] [q : KPart β] : DKey (α × β) :=
  .ofT (fun x => [p.en x.1, q.en x.2]) (fun x y h => by
    obtain ⟨h1, h2⟩ := List.cons.inj h
    obtain ⟨h2, _⟩ := List.cons.inj h2
    exact Prod.ext (p.inj _ _ h1) (q.inj _ _ h2)) fun {K F v x} ⟨a, u, w, e, h, r1, r2⟩ => ⟨a, e, by rw [h, p.rp r1, q.rp r2]; rfl⟩
noncomputable instance dkTup {α : Type} [i : Rep α] [DecidableEq α] [p : KPart α] : DKey (Tup α) :=
  .ofT (fun x => x.l.map p.en) (fun x y h => by
    cases x; cases y
    have : ∀ l m : List α, l.map p.en = m.map p.en → l = m := by
      intro l
      induction l with
      | nil => intro m h; cases m with | nil => rfl | cons _ _ => cases h
      | cons a l ih =>
        intro m h
        cases m with
        | nil => cases h
        | cons b m =>
          obtain ⟨h1, h2⟩ := List.cons.inj h
          rw [p.inj _ _ h1, ih m h2]
    exact congrArg Tup.mk (this _ _ h)) fun {K F v x} ⟨a, vs, e, h, pr⟩ => ⟨a, e, by
      rw [h]
      have : ∀ {vs : List V} {l : List α}, Paired (fun u x => i.rp K F u x) vs l → vs = (l.map p.en).map kV := by
        intro vs l h
        induction h with
        | nil => rfl
        | cons r _ ih => rw [List.map_cons, List.map_cons, ← ih, p.rp r]
      rw [this pr]⟩
section
variable {κ α : Type} [ik : Rep κ] [DecidableEq κ] [dk : DKey κ] {i : Rep α}
noncomputable abbrev DRel (i : Rep α) (K : PySem.W.Frag) (F : Hp) (kvs : List (κ × V)) (l : List (κ × α)) : Prop := Paired (fun (p : κ × V) (q : κ × α) => p.1 = q.1 ∧ i.rp K F p.2 q.2) kvs l
theorem DRel.val {K : PySem.W.Frag} {F : Hp} {k : κ} : ∀ {kvs : List (κ × V)} {l : List (κ × α)}, DRel i K F kvs l → (look l k = none → valV kvs k = none) ∧ ∀ y, look l k = some y → ∃ v, valV kvs k = some v ∧ i.rp K F v y
  | _, _, .nil => ⟨fun _ => rfl, fun y h => by cases h⟩
  | _, _, .cons (a := p) (b := q) r t => by
    have ih := DRel.val (k := k) t
    by_cases e : p.1 = k
    · rw [look_pos (r.1.symm.trans e), valV_pos e]
      exact ⟨fun z => (nomatch z), fun y h => ⟨_, rfl, by cases Option.some.inj h; exact r.2⟩⟩
    · rw [look_neg fun z => e (r.1.trans z), valV_neg e]
      exact ih
theorem DRel.put {K : PySem.W.Frag} {F : Hp} {k : κ} {v : V} {y : α} {kvs : List (κ × V)} {l : List (κ × α)} (h : DRel i K F kvs l) (r : i.rp K F v y) : DRel i K F (putK kvs k v) (put l k y) := by
  have e1 : (kvs.any fun kv => decide (kv.1 = k)) = l.any fun p => decide (p.1 = k) := by
    clear r
    induction h with
    | nil => rfl
    | cons r _ ih => rw [List.any_cons, List.any_cons, ih, r.1]
  unfold putK Tw.put
  rw [e1]
  split
  · clear e1
    have go : ∀ {ks : List (κ × V)} {ls : List (κ × α)}, DRel i K F ks ls → DRel i K F (ks.map fun kv => if kv.1 = k then (kv.1, v) else kv) (ls.map fun p => if p.1 = k then (p.1, y) else p) := by
      intro ks ls h
      induction h with
      | nil => exact .nil
      | @cons p q _ _ r' _ ih =>
        refine .cons ?_ ih
        show ((if p.1 = k then (p.1, v) else p).1 = (if q.1 = k then (q.1, y) else q).1 ∧ i.rp K F (if p.1 = k then (p.1, v) else p).2 (if q.1 = k then (q.1, y) else q).2)
        by_cases z : p.1 = k
        · rw [if_pos z, if_pos (r'.1.symm.trans z)]; exact ⟨r'.1, r⟩
        · rw [if_neg z, if_neg fun z2 => z (r'.1.trans z2)]; exact r'
    exact go h
  · exact papp h (.cons ⟨rfl, r⟩ .nil)
noncomputable instance repDic {α : Type} [i : Rep α] : Rep (Dic κ α) := ⟨fun K F v x => ∃ a kvs, v = .ref a ∧ F a = some (dk.ho kvs) ∧ DRel i K F kvs x.l,
  fun s ⟨a, kvs, e, h, p⟩ => ⟨a, kvs, e, s _ _ h, Paired.mapP p fun _ _ q => ⟨q.1, i.mono s q.2⟩⟩⟩
noncomputable def ownD (κ : Type) {α : Type} [ik : Rep κ] [DecidableEq κ] [dk : DKey κ] (i : Rep α) (a : Addr) (l : List (κ × α)) : Own where
  fp := [a]
  root := .ref a
  ok := fun K F H v => v = .ref a ∧ ∃ kvs, H a = some (dk.ho kvs) ∧ DRel i K F kvs l
  stay := fun s k ⟨e, vs, h, p⟩ => ⟨e, vs, k a (List.mem_singleton.mpr rfl) _ h, Paired.mapP p fun _ _ q => ⟨q.1, i.mono s q.2⟩⟩
  there := fun ⟨_, vs, h, _⟩ b hb z => by rw [List.mem_singleton.mp hb, h] at z; cases z
  rt := fun h => h.1
theorem frozD {a : Addr} {l : List (κ × α)} : Froz (ownD κ i a l) (Dic.mk l) := fun {K F H v} s ⟨e, vs, h, p⟩ f => ⟨a, vs, e, (frz_in (ps := [a]) (List.mem_singleton.mpr rfl)).trans h, Paired.mapP p fun _ _ q => ⟨q.1, i.mono (frz_le f) q.2⟩⟩
variable {X : Cx} {Γ : List Slot} {pos p p2 : Pos} {e a b c : Expr} {es : List Expr} {E : SE} {rest : List Stmt}
theorem exo_dict (κ : Type) {α : Type} [ik : Rep κ] [DecidableEq κ] [dk : DKey κ] (i : Rep α) : EX X Γ (.Dict [] [] pos) (fun r => r = .own fun o => ∃ a, o = ownD κ i a []) := fun B F H σ Q L q =>
  WE.of (dk.empty X pos) fun p hp => q _ (.ref p) F _ rfl (Ext.apart L.same hp) ⟨ownD κ i p [], ⟨p, rfl⟩, fun b hb => by rw [List.mem_singleton.mp hb]; exact ⟨hp, L.same.free hp⟩, rfl, [], upd_same, .nil⟩
theorem ev_dget {k : Nat} (hr : Room k X.A) {l : Dic κ α} {x : κ} {y : α} (ha : EV X Γ a l) (hb : EV X Γ b x) (hy : look l.l x = some y) (hp : autoParam (NoSl b) Tw.aIR2) : EV X Γ (.Subscript a b pos) y := fun B F H σ Q L q =>
  WE.of (pe_dget (by have := hr.units; omega) peW peW hp) (ha B F H σ _ L fun v F1 H1 e1 r1 => hb B F1 H1 σ _ (L.step e1) fun u F2 H2 e2 r2 => by
    obtain ⟨ad, kvs, rfl, h1, pr⟩ := r1
    obtain ⟨w, hw, rw'⟩ := (DRel.val pr).2 y hy
    have s2 := (L.step (e1.trans e2)).same
    refine ⟨ad, w, rfl, ?_, q w F2 H2 (e1.trans e2) (i.mono e2.ff rw')⟩
    rw [← hw]
    exact dk.get s2 (s2 _ _ (e2.ff _ _ h1)) r2)
theorem din_at {l : Dic κ α} {x : κ} {K : PySem.W.Frag} {F H : Hp} {v u : V} (s : Same F H) (r1 : repDic.rp K F v l) (r2 : ik.rp K F u x) : ∃ ad o, v = .ref ad ∧ DGet H ad u o ∧ o.isSome = (look l.l x).isSome := by
  obtain ⟨ad, kvs, rfl, h1, pr⟩ := r1
  refine ⟨ad, _, rfl, dk.get s (s _ _ h1) r2, ?_⟩
  cases hy : look l.l x with
  | none => rw [(DRel.val pr).1 hy]; rfl
  | some y => obtain ⟨w, hw, _⟩ := (DRel.val pr).2 y hy; rw [hw]; rfl
theorem et_din {k : Nat} (hr : Room k X.A) {l : Dic κ α} {x : κ} (hb : EV X Γ b x) (ha : EV X Γ a l) (hm : behindInMarks .In a = false := by first | exact nomark _ | rfl) : ET X Γ (.Compare b [.In] [a] pos) (look l.l x).isSome := fun B F H σ Q L q =>
  WT.of (pt_cmp (pc_din (by have := hr.units; omega) peW peW) hm) (hb B F H σ _ L fun u F1 H1 e1 r1 => ha B F1 H1 σ _ (L.step e1) fun v F2 H2 e2 r2 => by
    obtain ⟨ad, o, rfl, g, eo⟩ := din_at (L.step (e1.trans e2)).same r2 (ik.mono e2.ff r1)
    exact ⟨ad, o, rfl, g, _, rfl, by rw [eo]; exact q F2 H2 (e1.trans e2)⟩)
theorem st_dput {k : Nat} (hr0 : Room k X.A) (m : Nat) {n : Str} {ad : Addr} {l : List (κ × α)} {x : κ} {y : α} {sp : Pos} (he : EV X Γ e y) (hi : EV X Γ a x) (hz : l.length < sizeLine) (hr : ST X rest (Γ.set m (.own (ownD κ i ad (put l x y)))) E) (hgm : autoParam (Γ[m]? = some (.own (ownD κ i ad l))) aRfl) (hN : autoParam (X.N[m]? = some n) aRfl)
    (hv : autoParam (Vis X.env.scope n) aVis) (hdd : autoParam ((n == ("__debug__" : Str)) = false) aDec) (hcd : autoParam ((n == ("__classdict__" : Str)) = false) aDec)
    (hs : autoParam (swapsWith e (some (.Subscript (.Name n p) a sp)) pos.line X.env = pure false) aRfl) :
    ST X (.Assign [.Subscript (.Name n p) a sp] e pos :: rest) Γ E := fun B F H σ D L ed => by
  obtain ⟨v0, ea, ⟨rfl, _⟩, _⟩ := slot_own L hgm
  refine WP.cons (ps_dput (by have := hr0.units; omega) (pe_var hN hv hdd hcd) peW peW hs) (he B F H σ _ L fun v F1 H1 e1 r1 => ⟨_, ea, hi B F1 H1 σ _ (L.step e1) fun u F2 H2 e2 r2 => ?_⟩)
  have L2 := L.step (e1.trans e2)
  obtain ⟨v2, ev2, ⟨_, kvs, ha, pr⟩, _⟩ := slot_own L2 hgm
  have hl : kvs.length < sizeLine := by rw [Paired.length pr]; exact hz
  refine ⟨ad, _, rfl, dk.put L2.same ha r2 hl, hr B F2 _ σ D (L2.updO hgm ea (fun b w hb q => ?_) (fun b hb => ?_) (fun b hb => .inl hb) ⟨rfl, _, upd_same, DRel.put pr (i.mono e2.ff r1)⟩) (ed.weak (e1.trans e2).ff)⟩
  · rw [upd_ne fun z => hb (List.mem_singleton.mpr z)]; exact q
  · rw [List.mem_singleton.mp hb, upd_same]; exact fun z => nomatch z
end
section
variable {X : Cx} {Γ : List Slot} {α : Type} {i : Rep α} {pos p p2 : Pos} {e a b c : Expr} {es : List Expr} {E : SE} {rest : List Stmt}
class FlatV (α : Type) [i : Rep α] : Prop where
  fl : ∀ {K F v x}, i.rp K F v x → flatB v = true
  inj : ∀ {K F F' v w} {x : α}, i.rp K F v x → i.rp K F' w x → v = w
noncomputable instance : FlatV Tx := ⟨fun {_ _ v x} h => by obtain rfl : v = .str (sx x) := h; rfl, fun {_ _ _ v w x} h1 h2 => by obtain rfl : v = .str (sx x) := h1; obtain rfl : w = .str (sx x) := h2; rfl⟩
noncomputable instance : FlatV Int := ⟨fun {_ _ v x} h => by obtain rfl : v = .int x := h; rfl, fun {_ _ _ v w x} h1 h2 => by obtain rfl : v = .int x := h1; obtain rfl : w = .int x := h2; rfl⟩
end
end Tw
namespace Tw
open PySem PySem.Spec PyProof.Rows L2 TL
class HetT (α : Type) where
  els : α → List Slot
noncomputable instance (priority := low) repHetT {α : Type} [t : HetT α] : Rep α := ⟨fun K F v x => ∃ a vs, v = .ref a ∧ F a = some (.tup vs) ∧ HetOk K F vs (t.els x), fun s ⟨a, vs, e, h, r⟩ => ⟨a, vs, e, s _ _ h, r.mono s⟩⟩
section
variable {X : Cx} {Γ : List Slot} {α β γ δ : Type} {i : Rep α} {j : Rep β} {l : Rep γ} {pos p p2 : Pos} {e a b c : Expr} {es : List Expr} {E : SE} {rest body : List Stmt}
theorem exx_imp {P P' : Ret → Prop} {R R' : Exn → Prop} (h : EXX X Γ e P R) (f : ∀ r, P r → P' r) (g : ∀ y, R y → R' y) : EXX X Γ e P' R' := fun B F H σ Q L q z => h B F H σ Q L (fun r v F' H' hp => q r v F' H' (f r hp)) (fun y u d F' H' hy => z y u d F' H' (g y hy))
end
end Tw
namespace Tw
open PySem PySem.Spec PyProof.Rows L2 TL
theorem cnt_nodup (xs : List Str) : ∀ i, i ≤ xs.length → (SetS.cnt xs i = i ↔ (xs.take i).Nodup)
  | 0, _ => by simp [SetS.cnt]
  | i + 1, hi => by
    have ih := cnt_nodup xs i (by omega)
    have le := SetS.cnt_le xs i
    have e : xs.take (i + 1) = xs.take i ++ [xs.getD i Str.empty] := by
      rw [List.take_succ, List.getElem?_eq_getElem (by omega), List.getD_eq_getElem?_getD, List.getElem?_eq_getElem (by omega)]
      rfl
    rw [e, List.nodup_append]
    unfold SetS.cnt
    have hm : (xs.take i).any (· == xs.getD i Str.empty) = true ↔ xs.getD i Str.empty ∈ xs.take i := by
      rw [List.any_eq_true]
      exact ⟨fun ⟨z, h1, h2⟩ => (beq_iff_eq.mp h2) ▸ h1, fun h => ⟨_, h, by simp⟩⟩
    split
    · rename_i h
      refine ⟨fun z => by omega, fun ⟨_, _, z⟩ => ?_⟩
      exact absurd rfl (z _ (hm.mp h) _ (List.mem_singleton.mpr rfl))
    · rename_i h
      have h' := fun z => h (hm.mpr z)
      rw [Nat.add_right_cancel_iff, ih]
      refine ⟨fun z => ⟨z, by simp, fun a ha b hb q => ?_⟩, fun z => z.1⟩
      rw [List.mem_singleton.mp hb] at q
      exact h' (q ▸ ha)
noncomputable def unlike (x : Tx) : Nat := SetS.cnt (PyProof.Rows.signs (sx x)) (PyProof.Rows.signs (sx x)).length
theorem signs_sx (x : Tx) : PyProof.Rows.signs (sx x) = x.map fun c => ⟨#[c]⟩ := by
  unfold PyProof.Rows.signs sx
  simp
theorem unlike_nodup (x : Tx) : unlike x = x.length ↔ x.Nodup := by
  have h := cnt_nodup (PyProof.Rows.signs (sx x)) (PyProof.Rows.signs (sx x)).length (Nat.le_refl _)
  have l : (PyProof.Rows.signs (sx x)).length = x.length := by rw [signs_sx, List.length_map]
  unfold unlike
  rw [List.take_length] at h
  rw [l] at h ⊢
  rw [h, signs_sx]
  have inj : ∀ a b : Nat, (⟨#[a]⟩ : Str) = ⟨#[b]⟩ → a = b := fun a b e => by simpa using e
  constructor
  · intro q
    exact (List.pairwise_map.mp q).imp fun {a b} n e => n (by rw [e])
  · intro q
    exact List.pairwise_map.mpr (q.imp fun {a b} n e => n (inj a b e))
section
variable {X : Cx} {Γ : List Slot} {α β γ : Type} {i : Rep α} {j : Rep β} {pos p p2 : Pos} {e a b c : Expr} {es : List Expr} {E : SE} {rest body : List Stmt}
theorem ev_lenSet {x : Tx} {q0 : Pos} (m1 : X.mg "len" = none) (m2 : X.mg "set" = none) (h : EV X Γ e x) (hz : x.length < 4000) (g1 : autoParam (Gl X "len") aRfl) (g2 : autoParam (Gl X "set") aRfl) (hc : autoParam (X.calm = true) aRfl) (hs : autoParam (starEach [e] X.env = (false, eval e X.env) :: starEach [] X.env) aStar) :
    EV X Γ (.Call (.Name "len" p) [.Call (.Name "set" p2) [e] [] q0] [] pos) ((unlike x : Nat) : Int) := fun B F H σ Q L q =>
  WE.of (pe_lenSetS hc g1 m1 g2 m2 peW hs) (h B F H σ _ L fun v F1 H1 e1 r1 => by
    obtain rfl : v = .str (sx x) := r1
    exact ⟨sx x, rfl, by rw [sx_len]; unfold scanBound; omega, q _ F1 H1 e1 rfl⟩)
theorem st_extend (k : Nat) {n : Str} {ad : Addr} {xs ys : List α} {apos cpos : Pos} (he : EN X Γ e ys) (hr : ST X rest (Γ.set k (.lst i ad (xs ++ ys))) E) (hz : xs.length + ys.length ≤ sizeLine) (hg : autoParam (Γ[k]? = some (.lst i ad xs)) aRfl) (hN : autoParam (X.N[k]? = some n) aRfl)
    (hv : autoParam (Vis X.env.scope n) aVis) (hd : autoParam ((n == ("__debug__" : Str)) = false) aDec) (hcd : autoParam ((n == ("__classdict__" : Str)) = false) aDec)
    (hbase : autoParam (attributeBase (.Name n p) "extend" X.env (eval (.Name n p) X.env) = eval (.Name n p) X.env) aRfl)
    (hfew : autoParam (((backTo cpos (starEach [e] X.env)).all (fun x => !x.1) && (backToKw cpos (keywordEach [] X.env)).all (fun x => x.1.isSome) && decide ([e].length + ([] : List Keyword).length + (if ([] : List Keyword).isEmpty then 0 else 1) < 30)) = true) aRfl)
    (hline : autoParam ((apos.endLine == cpos.line) = true) aRfl) (hs : autoParam (starEach [e] X.env = (false, eval e X.env) :: starEach [] X.env) aStar) (hplain : autoParam ((backTo cpos (starEach [] X.env)).any (·.1) = false) aRfl)
    (hsw : autoParam (swapsWith (.Call (.Attribute (.Name n p) "extend" apos) [e] [] cpos) none pos.line X.env = pure false) aRfl) :
    ST X (.Expr (.Call (.Attribute (.Name n p) "extend" apos) [e] [] cpos) pos :: rest) Γ E := fun B F H σ D L ed => by
  obtain ⟨vs, ea, fa, ba, ha, pr⟩ := slot_lst L hg
  refine WP.cons (ps_expr (pe_bm PySem.F.plainAttrs_list PySem.F.slot_list_extend PySem.F.type_list_extend mt_extend (pe_var hN hv hd hcd) (pa_cons peW pa_nil hs) hbase hfew hline hs hplain) hsw) ?_
  refine ⟨_, ea, .inl ⟨rfl, _, .inl (.inl ha)⟩, he B F H σ _ L fun ad2 vs2 F1 H1 e1 h2 f2 h2' pr2 => ?_⟩
  have L1 := L.step e1
  obtain ⟨vs1, _, _, _, ha1, pr1⟩ := slot_lst L1 hg
  refine ⟨ad, ad2, vs1, vs2, rfl, rfl, ha1, h2', by rw [Paired.length pr1, Paired.length pr2]; exact hz, ?_⟩
  exact hr B F1 _ σ D (L1.updL hg (papp pr1 pr2)) (ed.weak e1.ff)
end
end Tw
namespace Tw
open PySem PySem.Spec PyProof.Rows L2 TL
section
variable {P : Program} {w : World} {K : PySem.W.Frag} {mg : Str → Option Value} {base : Heap}
noncomputable abbrev finI2 (o : Own) (m : Nat) (Q : Ret → Prop) (R : Exn → Prop) : SE := ⟨fun Γ => ∃ o' o2, Γ[0]? = some (.own o') ∧ o'.root = o.root ∧ 0 ≠ m ∧ Γ[m]? = some (.own o2) ∧ Q (.chg repUnit () [o', o2]), Q, fun _ => False, fun _ => False, fun _ => R⟩
theorem HasM.ofI2 {n m qual : Str} {st : Stmt} {N ps : List Str} {k : Nat} {S : Spec} (i2 : Nat) (D : Dm K n m qual st ps) (sc : FnScope N ps (defScope st)) (len : ∀ A Q R, S A Q R → A.length = ps.length)
    (body : ∀ (f : Addr) (cdv : Value) (A : Around) (outer : List Env) (s : Shared) (H : Hp) (E : XK), Room k (A.deeper (envOfC qual (defScope st) s.heap.objs.size f cdv)) → ∀ Γ Q R, S Γ Q R →
      ∃ o, ST (cxOf (L2.CX P w) P w K mg base N qual (defScope st) f cdv A outer s H E) (defBody st) (Γ ++ List.replicate (N.length - ps.length) .no) (finI2 o i2 Q R)) :
    HasM P w K mg base (k + 1) n m ps S := by
  obtain ⟨C0, f, fd, hC0, hM, F, hb⟩ := D.ex
  refine ⟨fun C hC => ⟨f, fd, by obtain rfl := ns_one hC0 hC; exact hM, hb, F.okX sc (fun vs H Q E ⟨F0, A, s, r, ap, h⟩ => ?_) (fun cdv A outer s H vs Q E hr h => ?_)⟩⟩
  · rw [r.len]; exact len _ _ _ h
  · obtain ⟨F0, A0, sm, r, ap, h⟩ := h
    refine ⟨_, psW, ?_⟩
    have hl := len _ _ _ h
    have L0 := lc_start (K := K) sm r ap (N.length - ps.length)
    have L1 : Lc K ⟨F0, H, MA A0⟩ F0 H (L2.start N vs) (A0 ++ List.replicate (N.length - ps.length) .no) := by
      unfold L2.start
      rw [show vs.length = ps.length from r.len.trans hl]
      exact L0
    obtain ⟨o, hbody⟩ := body f cdv A outer s H E hr A0 _ _ h
    refine hbody ⟨F0, H, MA A0⟩ F0 H _ _ L1 ⟨fun F' H' σ' Γ' _ hq L => ?_, fun r v F' H' hq ex ok => hq v F' H' ex ok, fun _ _ _ _ _ z => z.elim, fun _ _ _ _ _ z => z.elim, fun F1 H1 σ' Γ' x u d _ hq L ok => ?_⟩
    · obtain ⟨o', o2, hg, hr', hne, hg2, hq⟩ := hq
      obtain ⟨v, ev, ok', f'⟩ := slot_own L hg
      obtain ⟨v2, ev2, ok2, f2⟩ := slot_own L hg2
      refine hq .non F' H' L.ext ⟨rfl, fun o3 h3 => ?_, List.pairwise_pair.mpr (L.ap 0 i2 o' o2 hne hg hg2)⟩
      rcases List.mem_cons.mp h3 with e | h3
      · rw [e]; exact ⟨by rw [← o'.rt ok']; exact ok', fun b hb => ⟨(f' b hb).2, (f' b hb).1⟩⟩
      · rw [List.mem_singleton.mp h3]; exact ⟨by rw [← o2.rt ok2]; exact ok2, fun b hb => ⟨(f2 b hb).2, (f2 b hb).1⟩⟩
    · exact XW.of (L2.takes_of rfl rfl rfl rfl) (hq u d F1 H1 L.ext (ok.imp fun b h => h.1))
end
end Tw
namespace Tw
open PySem PySem.Spec PyProof.Rows L2 TL
end Tw
namespace Tw
open PySem PySem.Spec PyProof.Rows L2 TL
set_option genInjectivity true in
inductive Dy where
  | i (n : Int)
  | s (x : Tx)
  | n
  | t (xs : List Dy)
  | l (xs : List Dy)
mutual
noncomputable def rpD (F : Hp) : Dy → V → Prop
  | .i n, v => v = .int n
  | .s x, v => v = .str (sx x)
  | .n, v => v = .non
  | .t xs, v => ∃ a vs, v = .ref a ∧ F a = some (.tup vs) ∧ rpDs F xs vs
  | .l xs, v => ∃ a vs, v = .ref a ∧ F a = some (.lst vs) ∧ rpDs F xs vs
noncomputable def rpDs (F : Hp) : List Dy → List V → Prop
  | [], vs => vs = []
  | x :: xs, vs => ∃ v ws, vs = v :: ws ∧ rpD F x v ∧ rpDs F xs ws
end
mutual
theorem rpD_mono {F F' : Hp} (h : Same F F') : ∀ (x : Dy) (v : V), rpD F x v → rpD F' x v
  | .i n, v, r => by rw [rpD] at r ⊢; exact r
  | .s x, v, r => by rw [rpD] at r ⊢; exact r
  | .n, v, r => by rw [rpD] at r ⊢; exact r
  | .t xs, v, r => by
    rw [rpD] at r ⊢
    obtain ⟨a, vs, e, h1, h2⟩ := r
    exact ⟨a, vs, e, h _ _ h1, rpDs_mono h xs vs h2⟩
  | .l xs, v, r => by
    rw [rpD] at r ⊢
    obtain ⟨a, vs, e, h1, h2⟩ := r
    exact ⟨a, vs, e, h _ _ h1, rpDs_mono h xs vs h2⟩
theorem rpDs_mono {F F' : Hp} (h : Same F F') : ∀ (xs : List Dy) (vs : List V), rpDs F xs vs → rpDs F' xs vs
  | [], vs, r => by rw [rpDs] at r ⊢; exact r
  | x :: xs, vs, r => by
    rw [rpDs] at r ⊢
    obtain ⟨v, ws, e, h1, h2⟩ := r
    exact ⟨v, ws, e, rpD_mono h x v h1, rpDs_mono h xs ws h2⟩
end
noncomputable instance repDy : Rep Dy := ⟨fun _ F v x => rpD F x v, fun s h => rpD_mono s _ _ h⟩
theorem rpDs_iff {α : Type} [i : Rep α] {K : PySem.W.Frag} {F : Hp} {d : α → Dy} (hd : ∀ v x, i.rp K F v x ↔ rpD F (d x) v) : ∀ (xs : List α) (vs : List V), Paired (fun u x => i.rp K F u x) vs xs ↔ rpDs F (xs.map d) vs
  | [], vs => by
    rw [List.map_nil, rpDs]
    exact ⟨fun h => by cases h; rfl, fun h => by subst h; exact .nil⟩
  | x :: xs, vs => by
    rw [List.map_cons, rpDs]
    constructor
    · intro h
      cases h with
      | cons r t => exact ⟨_, _, rfl, (hd _ _).mp r, (rpDs_iff hd xs _).mp t⟩
    · rintro ⟨v, ws, rfl, r, t⟩
      exact .cons ((hd _ _).mpr r) ((rpDs_iff hd xs _).mpr t)
class IsD (α : Type) [i : Rep α] where
  d : α → Dy
  iff : ∀ {K : PySem.W.Frag} {F : Hp} {v : V} {x : α}, i.rp K F v x ↔ rpD F (d x) v
noncomputable instance isdDy : IsD Dy := ⟨fun x => x, Iff.rfl⟩
noncomputable instance isdInt : IsD Int := ⟨.i, by intro K F v x; rw [rpD]; exact Iff.rfl⟩
noncomputable instance isdTx : IsD (List Nat) := ⟨.s, by intro K F v x; rw [rpD]; exact Iff.rfl⟩
noncomputable instance isdUnit : IsD Unit := ⟨fun _ => .n, by intro K F v x; rw [rpD]; exact Iff.rfl⟩
noncomputable instance isdList {α : Type} [i : Rep α] [h : IsD α] : IsD (List α) := ⟨fun xs => .l (xs.map h.d), by
  intro K F v xs
  rw [rpD]
  constructor
  · rintro ⟨a, vs, e, h1, p⟩
    exact ⟨a, vs, e, h1, (rpDs_iff (K := K) (fun v x => h.iff) xs vs).mp p⟩
  · rintro ⟨a, vs, e, h1, p⟩
    exact ⟨a, vs, e, h1, (rpDs_iff (K := K) (fun v x => h.iff) xs vs).mpr p⟩⟩
noncomputable instance isdTup {α : Type} [i : Rep α] [h : IsD α] : IsD (Tup α) := ⟨fun xs => .t (xs.l.map h.d), by
  intro K F v xs
  rw [rpD]
  constructor
  · rintro ⟨a, vs, e, h1, p⟩
    exact ⟨a, vs, e, h1, (rpDs_iff (K := K) (fun v x => h.iff) xs.l vs).mp p⟩
  · rintro ⟨a, vs, e, h1, p⟩
    exact ⟨a, vs, e, h1, (rpDs_iff (K := K) (fun v x => h.iff) xs.l vs).mpr p⟩⟩
noncomputable instance isdPair {α β : Type} [i : Rep α] [j : Rep β] [h : IsD α] [h2 : IsD β] : IsD (α × β) := ⟨fun x => .t [h.d x.1, h2.d x.2], by
  intro K F v x
  rw [rpD]
  constructor
  · rintro ⟨a, u, w, e, h1, p, q⟩
    refine ⟨a, _, e, h1, ?_⟩
    rw [rpDs]
    refine ⟨u, _, rfl, h.iff.mp p, ?_⟩
    rw [rpDs]
    exact ⟨w, _, rfl, h2.iff.mp q, by rw [rpDs]⟩
  · rintro ⟨a, vs, e, h1, p⟩
    rw [rpDs] at p
    obtain ⟨u, ws, rfl, p, q⟩ := p
    rw [rpDs] at q
    obtain ⟨w, ws, rfl, q, r⟩ := q
    rw [rpDs] at r
    subst r
    exact ⟨a, u, w, e, h1, h.iff.mpr p, h2.iff.mpr q⟩⟩
@[reducible] noncomputable def repOfD {α : Type} (d : α → Dy) : Rep α := ⟨fun _ F v x => rpD F (d x) v, fun s h => rpD_mono s _ _ h⟩
section
variable {X : Cx} {Γ : List Slot} {α β γ : Type} {i : Rep α} {j : Rep β} {l : Rep γ} {pos p p2 : Pos} {e a b c elt tg it : Expr} {es : List Expr} {E : SE} {rest body : List Stmt}
theorem ev_conv {x : α} {y : β} (h : EV X Γ e x) (f : ∀ K F v, i.rp K F v x → j.rp K F v y) : EV X Γ e y := fun B F H σ Q L q => h B F H σ Q L fun v F' H' ex r => q v F' H' ex (f _ _ _ r)
theorem ev_d {x : α} [h : IsD α] (he : EV X Γ e x) : EV X Γ e (h.d x) := ev_conv he fun _ _ _ r => h.iff.mp r
theorem ev_u {x : α} {y : Dy} [h : IsD α] (he : EV X Γ e y) (q : autoParam (y = h.d x) aRfl) : EV X Γ e x := ev_conv he fun _ _ _ r => by subst q; exact h.iff.mpr r
theorem ev_t {xs : List Dy} (he : EV X Γ e (Dy.t xs)) : EV X Γ e (Tup.mk xs) := ev_conv he fun K F v r => (isdTup (α := Dy)).iff.mpr (by show rpD F (.t (xs.map fun x => x)) v; rw [List.map_id']; exact r)
theorem ev_ot {xs : List Dy} (he : EV X Γ e (Tup.mk xs)) : EV X Γ e (Dy.t xs) := ev_conv he fun K F v r => by
  have := (isdTup (α := Dy)).iff.mp r
  have h : rpD F (.t (xs.map fun x => x)) v := this
  rw [List.map_id'] at h
  exact h
theorem cutL_from {A : Type} {xs : List A} (k : Nat) : cutL xs (some (k : Int)) none = xs.drop k := by
  unfold cutL
  rw [HT.sIx_nat]
  show (xs.drop (min k xs.length)).take (xs.length - min k xs.length) = _
  rw [List.take_of_length_le (by rw [List.length_drop]; exact Nat.le_refl _)]
  by_cases h : k ≤ xs.length
  · rw [Nat.min_eq_left h]
  · rw [Nat.min_eq_right (by omega), List.drop_length, List.drop_eq_nil_of_le (by omega)]
theorem cutL_to {A : Type} {xs : List A} (k : Nat) : cutL xs none (some (k : Int)) = xs.take k := by
  unfold cutL
  rw [HT.sIx_nat]
  show (xs.drop 0).take (min k xs.length - 0) = _
  rw [List.drop_zero, Nat.sub_zero]
  by_cases h : k ≤ xs.length
  · rw [Nat.min_eq_left h]
  · rw [Nat.min_eq_right (by omega), List.take_length, List.take_of_length_le (by omega)]
theorem ev_tupL {xs : List α} (hm : X.mg "tuple" = none) (h : EV X Γ e xs) (hg : autoParam (Gl X "tuple") aRfl) (hs : autoParam (starEach [e] X.env = (false, eval e X.env) :: starEach [] X.env) aStar) (hpl : autoParam ((backTo pos (starEach [] X.env)).any (·.1) = false) aPl) :
    EV X Γ (.Call (.Name "tuple" p) [e] [] pos) (Tup.mk xs) := fun B F H σ Q L q =>
  WE.of (pe_callTy call_tuple_of hg hm (by decide +kernel) (pa_cons peW pa_nil hs) (by decide) (by decide) hs hpl) (h B F H σ _ L fun v F1 H1 e1 r1 => by
    obtain ⟨ad, vs, rfl, ha, pr⟩ := r1
    have s1 := (L.step e1).same
    exact ⟨ad, vs, rfl, .inl ⟨sq_of s1 ha, fun q' hq => by
      have ea := Ext.new (o := .tup vs) s1 hq
      exact q (.ref q') _ _ (e1.trans ea) ⟨q', vs, rfl, upd_same, Paired.mapP pr fun _ _ z => i.mono ea.ff z⟩⟩⟩)
theorem ED.same {B : Bs} {F0 F1 : Hp} {D : Ends} (ed : ED X B F0 E D) (s : Same F0 F1) : ED X B F1 E D := ed.weak s
theorem st_while (P : Nat → List Slot → Prop) (m0 : Nat) (h0 : P m0 Γ)
    (hb : ∀ m Γ', P m Γ' → ∃ k : Bool, ET X Γ' c k ∧ (k = true → ST X body Γ' { nx := fun Γ2 => ∃ m', m' < m ∧ P m' Γ2, ct := fun Γ2 => ∃ m', m' < m ∧ P m' Γ2, bk := fun Γ2 => ST X rest Γ2 E, rt := E.rt, ex := E.ex }) ∧ (k = false → ST X rest Γ' E))
    (hp : autoParam (PassesOwn (model X.prog X.w) X.A X.env X.xe) Tw.aPass) :
    ST X (.While c body [] pos :: rest) Γ E := fun B F H σ D L ed => by
  refine WP.cons (ps_while hp ptW psW) ?_
  refine ⟨fun m σ H => ∃ F2 Γ', P m Γ' ∧ Same F F2 ∧ Lc X.K B F2 H σ Γ', ⟨m0, F, Γ, h0, Same.refl _, L⟩, ?_⟩
  rintro m σ H ⟨F2, Γ', hP, s12, L2⟩
  obtain ⟨k, hc, ht, hf⟩ := hb m Γ' hP
  refine hc B F2 H σ _ L2 fun F3 H3 e3 => ?_
  cases k with
  | true =>
    rw [if_pos rfl]
    refine ⟨fun σ' H' => ∃ m', m' < m ∧ ∃ F4 Γ4, P m' Γ4 ∧ Same F F4 ∧ Lc X.K B F4 H' σ' Γ4, fun σ' H' ⟨m', h1, h2⟩ => ⟨m', h1, h2⟩, ?_⟩
    refine ht rfl B F3 H3 σ _ (L2.step e3) ⟨fun F5 H5 σ5 Γ5 s5 ⟨m', h1, h2⟩ L5 => ⟨m', h1, F5, Γ5, h2, s12.trans (e3.ff.trans s5), L5⟩, ed.rt, fun F5 H5 σ5 Γ5 s5 h5 L5 => h5 B F5 H5 σ5 D L5 (ed.weak (s12.trans (e3.ff.trans s5))), fun F5 H5 σ5 Γ5 s5 ⟨m', h1, h2⟩ L5 => ⟨m', h1, F5, Γ5, h2, s12.trans (e3.ff.trans s5), L5⟩, fun F5 H5 σ5 Γ5 x u d s5 h5 L5 => ed.ex F5 H5 σ5 Γ5 x u d (s12.trans (e3.ff.trans s5)) h5 L5⟩
  | false =>
    rw [if_neg (by decide)]
    exact hf rfl B F3 H3 σ D (L2.step e3) (ed.weak (s12.trans e3.ff))
end
end Tw
namespace Tw
open PySem PySem.Spec PyProof.Rows L2 TL
end Tw
namespace Tw
open PySem PySem.Spec PyProof.Rows L2 TL
section
variable {X : Cx} {Γ : List Slot} {α β γ : Type} {i : Rep α} {j : Rep β} {pos p p2 pos2 : Pos} {e a b c elt tg it : Expr} {es : List Expr} {E : SE} {rest body : List Stmt}
theorem ev_ixY {x : α} {n : Int} {y : β} {ds : List Dy} [h1 : IsD α] [h2 : IsD β] (ha : EV X Γ a x) (hi : EV X Γ b n) (hd : h1.d x = .t ds) (hk : atI ds n = some (h2.d y)) (hp : autoParam (PlainIx b) Tw.aIR2) : EV X Γ (.Subscript a b pos) y :=
  ev_u (y := h2.d y) (ev_ixT (ev_t (hd ▸ ev_d ha)) hi hk hp)
end
end Tw
namespace Tw
open PySem PySem.Spec PyProof.Rows L2 TL
section
variable {X : Cx} {Γ : List Slot} {α β γ : Type} {i : Rep α} {j : Rep β} {pos p p2 pos2 : Pos} {e a b c elt tg it : Expr} {es : List Expr} {E : SE} {rest body : List Stmt}
theorem WA.no {es : List Expr} {σ : L2.St} {H : Hp} {Q : List V → Hp → Prop} (h : WA X es σ H (fun _ _ => False)) : WA X es σ H Q := ⟨fun pos pins s I => wpAny_mono (h.go pos pins s I) (fun us s1 ⟨vs, H1, I1, r1, hf⟩ => hf.elim) fun _ _ z => z⟩
end
end Tw
namespace Tw
open PySem PySem.Spec PyProof.Rows L2 TL
mutual
noncomputable def Dy.py : Dy → PyData
  | .i z => .int z
  | .s x => .str (sx x)
  | .n => .none
  | .t xs => .tuple (Dy.pys xs)
  | .l xs => .list (Dy.pys xs)
noncomputable def Dy.pys : List Dy → List PyData
  | [] => []
  | x :: xs => x.py :: Dy.pys xs
end
mutual
noncomputable def Dy.okc : Dy → Prop
  | .i _ => True
  | .s x => TxOk x
  | .n => True
  | .t xs => Dy.okcs xs
  | .l xs => Dy.okcs xs
noncomputable def Dy.okcs : List Dy → Prop
  | [] => True
  | x :: xs => x.okc ∧ Dy.okcs xs
end
mutual
noncomputable def Dy.dep : Dy → Nat
  | .i _ => 0
  | .s _ => 0
  | .n => 0
  | .t xs => Dy.deps xs + 1
  | .l xs => Dy.deps xs + 1
noncomputable def Dy.deps : List Dy → Nat
  | [] => 0
  | x :: xs => max x.dep (Dy.deps xs)
end
mutual
theorem Dy.py_dep : ∀ x : Dy, x.py.depth = x.dep
  | .i z => by rw [Dy.py, Dy.dep, PyData.depth]
  | .s x => by rw [Dy.py, Dy.dep, PyData.depth]
  | .n => by rw [Dy.py, Dy.dep, PyData.depth]
  | .t xs => by rw [Dy.py, Dy.dep, PyData.depth, Dy.pys_dep xs]
  | .l xs => by rw [Dy.py, Dy.dep, PyData.depth, Dy.pys_dep xs]
theorem Dy.pys_dep : ∀ xs : List Dy, PyData.depthAll (Dy.pys xs) = Dy.deps xs
  | [] => by rw [Dy.pys, Dy.deps, PyData.depthAll]
  | x :: xs => by rw [Dy.pys, Dy.deps, PyData.depthAll, Dy.py_dep x, Dy.pys_dep xs]
end
mutual
theorem Dy.py_lay : ∀ x : Dy, x.okc → x.py.canLay0 = true
  | .i z, _ => by rw [Dy.py, PyData.canLay0]
  | .s x, h => by
    rw [Dy.py]
    rw [Dy.okc] at h
    exact (instDatTx).lay h
  | .n, _ => by rw [Dy.py, PyData.canLay0]
  | .t xs, h => by rw [Dy.py, PyData.canLay0]; rw [Dy.okc] at h; exact Dy.pys_lay xs h
  | .l xs, h => by rw [Dy.py, PyData.canLay0]; rw [Dy.okc] at h; exact Dy.pys_lay xs h
theorem Dy.pys_lay : ∀ xs : List Dy, Dy.okcs xs → PyData.canLayAll0 (Dy.pys xs) = true
  | [], _ => by rw [Dy.pys, PyData.canLayAll0]
  | x :: xs, h => by
    rw [Dy.okcs] at h
    rw [Dy.pys, PyData.canLayAll0, Dy.py_lay x h.1, Dy.pys_lay xs h.2]
    rfl
end
mutual
theorem Dy.py_eqv : ∀ x y : Dy, PyData.eqv x.py y.py = true ↔ x = y
  | .i a, .i b => by rw [Dy.py, Dy.py, PyData.eqv, beq_iff_eq]; exact ⟨fun h => congrArg _ h, fun h => Dy.i.inj h⟩
  | .i a, .s b => by simp [Dy.py, PyData.eqv]
  | .i a, .n => by simp [Dy.py, PyData.eqv]
  | .i a, .t b => by simp [Dy.py, PyData.eqv]
  | .i a, .l b => by simp [Dy.py, PyData.eqv]
  | .s a, .i b => by simp [Dy.py, PyData.eqv]
  | .s a, .s b => by
    rw [Dy.py, Dy.py]
    have := (instDatTx).eqv a b
    rw [show PyData.eqv (.str (sx a)) (.str (sx b)) = decide (a = b) from this, decide_eq_true_eq]
    exact ⟨fun h => congrArg _ h, fun h => Dy.s.inj h⟩
  | .s a, .n => by simp [Dy.py, PyData.eqv]
  | .s a, .t b => by simp [Dy.py, PyData.eqv]
  | .s a, .l b => by simp [Dy.py, PyData.eqv]
  | .n, .i b => by simp [Dy.py, PyData.eqv]
  | .n, .s b => by simp [Dy.py, PyData.eqv]
  | .n, .n => by simp [Dy.py, PyData.eqv]
  | .n, .t b => by simp [Dy.py, PyData.eqv]
  | .n, .l b => by simp [Dy.py, PyData.eqv]
  | .t a, .i b => by simp [Dy.py, PyData.eqv]
  | .t a, .s b => by simp [Dy.py, PyData.eqv]
  | .t a, .n => by simp [Dy.py, PyData.eqv]
  | .t a, .t b => by rw [Dy.py, Dy.py, PyData.eqv, Dy.pys_eqv a b]; exact ⟨fun h => congrArg _ h, fun h => Dy.t.inj h⟩
  | .t a, .l b => by simp [Dy.py, PyData.eqv]
  | .l a, .i b => by simp [Dy.py, PyData.eqv]
  | .l a, .s b => by simp [Dy.py, PyData.eqv]
  | .l a, .n => by simp [Dy.py, PyData.eqv]
  | .l a, .t b => by simp [Dy.py, PyData.eqv]
  | .l a, .l b => by rw [Dy.py, Dy.py, PyData.eqv, Dy.pys_eqv a b]; exact ⟨fun h => congrArg _ h, fun h => Dy.l.inj h⟩
theorem Dy.pys_eqv : ∀ xs ys : List Dy, PyData.eqvAll (Dy.pys xs) (Dy.pys ys) = true ↔ xs = ys
  | [], [] => by simp [Dy.pys, PyData.eqvAll]
  | [], y :: ys => by simp [Dy.pys, PyData.eqvAll]
  | x :: xs, [] => by simp [Dy.pys, PyData.eqvAll]
  | x :: xs, y :: ys => by rw [Dy.pys, Dy.pys, PyData.eqvAll, Bool.and_eq_true, Dy.py_eqv x y, Dy.pys_eqv xs ys]; exact ⟨fun h => by rw [h.1, h.2], fun h => by cases h; exact ⟨rfl, rfl⟩⟩
end
mutual
theorem rpD_dp {K : PySem.W.Frag} {F : Hp} : ∀ (x : Dy) (v : V), rpD F x v → Dp K F v x.py
  | .i z, v, h => by rw [rpD] at h; subst h; rw [Dy.py]; exact .int z
  | .s x, v, h => by rw [rpD] at h; subst h; rw [Dy.py]; exact .str _
  | .n, v, h => by rw [rpD] at h; subst h; rw [Dy.py]; exact .non
  | .t xs, v, h => by
    rw [rpD] at h
    obtain ⟨a, vs, rfl, h1, h2⟩ := h
    rw [Dy.py]
    exact .tup (.inl (.inl h1)) (rpDs_dp xs vs h2)
  | .l xs, v, h => by
    rw [rpD] at h
    obtain ⟨a, vs, rfl, h1, h2⟩ := h
    rw [Dy.py]
    exact .lst (.inl (.inl h1)) (rpDs_dp xs vs h2)
theorem rpDs_dp {K : PySem.W.Frag} {F : Hp} : ∀ (xs : List Dy) (vs : List V), rpDs F xs vs → DpAll K F vs (Dy.pys xs)
  | [], vs, h => by rw [rpDs] at h; subst h; rw [Dy.pys]; exact .nil
  | x :: xs, vs, h => by
    rw [rpDs] at h
    obtain ⟨v, ws, rfl, h1, h2⟩ := h
    rw [Dy.pys]
    exact .cons (rpD_dp x v h1) (rpDs_dp xs ws h2)
end
structure Dy.Shp (x : Dy) : Prop where
  ok : x.okc
  dp : x.dep ≤ 64
theorem Dy.Shp.shaped {x : Dy} (h : x.Shp) : SeqAt.shaped x.py = true := by
  unfold SeqAt.shaped
  rw [Dy.py_lay x h.ok, Dy.py_dep, decide_eq_true h.dp]
  rfl
section
variable {K : PySem.W.Frag} {B : Bs} {F H F' H' : Hp} {σ : L2.St} {Γ : List Slot}
theorem Lc.putOO (L : Lc K B F H σ Γ) (k : Nat) {o : Own} {v : V} (f : ∀ b ∈ o.fp, F b = none ∧ B.nw b) (fr : ∀ (j : Nat) o', k ≠ j → Γ[j]? = some (.own o') → ∀ b ∈ o.fp, b ∉ o'.fp) (ok : o.ok K F H v) : Lc K B F H (σ.set k (some v)) (Γ.set k (.own o)) := by
  refine ⟨L.ext, by simp [L.len], fun j t h => ?_, L.ap.putO k fr⟩
  rw [get_set_join]
  rcases get_set_slot h with ⟨e1, e2, rfl⟩ | ⟨e1, h⟩
  · rw [if_pos ⟨e1, by rw [L.len]; exact e2⟩]
    exact ⟨v, rfl, ok, f⟩
  · rw [if_neg fun z => e1 z.1]; exact L.ok j t h
end
section
variable {X : Cx} {Γ : List Slot} {α β γ : Type} {i : Rep α} {j : Rep β} {pos p p2 pos2 : Pos} {e a b c elt tg it : Expr} {es : List Expr} {E : SE} {rest body : List Stmt}
theorem st_retC (k : Nat) {x : α} {o : Own} (he : EV X Γ e x) (hP : E.rt (.chg i x [o])) (hg : autoParam (Γ[k]? = some (.own o)) aRfl) : ST X (.Return (some e) pos :: rest) Γ E := fun B F H σ D L ed =>
  WP.cons (ps_ret peW) (he B F H σ _ L fun v F1 H1 e1 r1 => by
    have L1 := L.step e1
    obtain ⟨u, _, ok, f⟩ := slot_own L1 hg
    have eu := o.rt ok
    subst eu
    refine ed.rt (.chg i x [o]) v F1 H1 hP L1.ext ⟨r1, fun o' ho => ?_, by simp⟩
    rw [List.mem_singleton.mp ho]
    exact ⟨ok, fun b hb => ⟨(f b hb).2, (f b hb).1⟩⟩)
end
end Tw
namespace Tw
open PySem PySem.Spec PyProof.Rows L2 TL
end Tw
namespace Tw
open PySem PySem.Spec PyProof.Rows L2 TL
section
variable {X : Cx} {Γ Γ' : List Slot} {α β γ : Type} {i : Rep α} {j : Rep β} {l : Rep γ} {pos p p2 p3 pos2 : Pos} {e a b c elt tg it : Expr} {es : List Expr} {E : SE} {rest body : List Stmt}
theorem et_le {k : Bool} (h : Le Γ Γ') (he : ET X Γ' c k) : ET X Γ c k := fun B F H σ Q L q => he B F H σ Q (L.le h) q
theorem st_whileS {ι : Type} (S : ι → List Slot) (I : Nat → ι → Prop) (m0 : Nat) (x0 : ι) (hle : Le Γ (S x0)) (h0 : I m0 x0)
    (hb : ∀ m x, I m x → ∃ k : Bool, ET X (S x) c k ∧ (k = true → ST X body (S x) { nx := fun Γ2 => ∃ m' y, m' < m ∧ Le Γ2 (S y) ∧ I m' y, ct := fun Γ2 => ∃ m' y, m' < m ∧ Le Γ2 (S y) ∧ I m' y, bk := fun Γ2 => ST X rest Γ2 E, rt := E.rt, ex := E.ex }) ∧ (k = false → ST X rest (S x) E))
    (hp : autoParam (PassesOwn (model X.prog X.w) X.A X.env X.xe) Tw.aPass) :
    ST X (.While c body [] pos :: rest) Γ E :=
  st_while (fun m Γ' => ∃ x, Le Γ' (S x) ∧ I m x) m0 ⟨x0, hle, h0⟩ (fun m Γ' ⟨x, le, hI⟩ => by
    obtain ⟨k, h1, h2, h3⟩ := hb m x hI
    refine ⟨k, et_le le h1, fun hk => st_le le ?_, fun hk => st_le le (h3 hk)⟩
    have := h2 hk
    refine fun B F H σ D L ed => this B F H σ D L ⟨fun F5 H5 σ5 Γ5 s5 ⟨m', y, a, b, c⟩ L5 => ed.nx F5 H5 σ5 Γ5 s5 ⟨m', a, y, b, c⟩ L5, ed.rt, ed.bk, fun F5 H5 σ5 Γ5 s5 ⟨m', y, a, b, c⟩ L5 => ed.ct F5 H5 σ5 Γ5 s5 ⟨m', a, y, b, c⟩ L5, ed.ex⟩) hp
theorem st_nx {sts : List Stmt} {P Q : List Slot → Prop} (h : ST X sts Γ { E with nx := P }) (hPQ : ∀ Γ', P Γ' → Q Γ') : ST X sts Γ { E with nx := Q } := fun B F H σ D L ed =>
  h B F H σ D L ⟨fun F5 H5 σ5 Γ5 s5 hp L5 => ed.nx F5 H5 σ5 Γ5 s5 (hPQ _ hp) L5, ed.rt, ed.bk, ed.ct, ed.ex⟩
theorem st_ifJ {ι : Type} {k : Bool} {A C : List Stmt} (S : ι → List Slot) (I : ι → Prop) (hc : ET X Γ c k) (hA : k = true → ST X A Γ { E with nx := fun Γ' => ∃ y, Le Γ' (S y) ∧ I y }) (hC : k = false → ST X C Γ { E with nx := fun Γ' => ∃ y, Le Γ' (S y) ∧ I y }) (hr : ∀ y, I y → ST X rest (S y) E) : ST X (.If c A C pos :: rest) Γ E :=
  st_if hc (fun hk => st_nx (hA hk) fun Γ' ⟨y, le, hI⟩ => st_le le (hr y hI)) (fun hk => st_nx (hC hk) fun Γ' ⟨y, le, hI⟩ => st_le le (hr y hI))
end
end Tw
namespace L2
open PySem PySem.Spec PySem.Calls PyProof.Rows
end L2
namespace Tw
open PySem PySem.Spec PyProof.Rows L2 TL
end Tw
namespace Tw
open PySem PySem.Spec PyProof.Rows L2 TL
end Tw
universe u
namespace Tw
open PySem PySem.Spec PyProof.Rows L2 TL
end Tw
namespace Tw
open PySem PySem.Spec PyProof.Rows L2 TL
end Tw
namespace Tw
open PySem PySem.Spec PyProof.Rows L2 TL
end Tw
namespace Tw
open PySem PySem.Spec PyProof.Rows L2 TL
section
variable {X : Cx} {Γ Γ1 : List Slot} {α β γ : Type} {i : Rep α} {j : Rep β} {l : Rep γ} {pos p p2 p3 pos2 : Pos} {e a b c elt tg it : Expr} {es : List Expr} {E : SE} {rest body : List Stmt}
theorem st_setLcEx (m : Nat) {y : Str} {py spos : Pos} {scope : Scope} {own : List (Str × Nat)} {xs : List α} {G : β → Prop} {bind : α → List Slot → List Slot} {g : TG} (hS : Src X Γ tg it xs) (hT : Tg X.K g bind (own.map (·.2))) (hg : ∀ s H C cl fp, PG (Blk X scope s H C cl fp) tg g)
    (he : ∀ x ∈ xs, ∀ s H C cl fp, EX (Blk X scope s H C cl fp) (bind x (wipeS Γ (own.map (·.2)))) elt (fun r => ∃ y, G y ∧ r = .val j y)) (hN : X.N.Nodup) (hz : xs.length ≤ sizeLine) (hr : ∀ ad, ∀ ys : List β, ys.length = xs.length → (∀ y ∈ ys, G y) → ST X rest (Γ.set m (.lst j ad ys)) E)
    (ok : BlkOk X.N X.env.scope scope own := by exact blkOk_by (by decide +kernel)) (hy : autoParam (X.N[m]? = some y) aRfl) (hyl : autoParam (X.env.scope.names.lookup y = some .local) aRfl)
    (hsw : swapsWith (.ListComp elt [⟨tg, it, [], 0⟩] scope pos) (some (.Name y py)) spos.line X.env = pure true := by exact sw_true rfl rfl rfl (by decide +kernel))
    (hc : autoParam (X.calm = true) aRfl) (hs : autoParam (∀ x, foldedSetIterable it X.env x = pure x) Tw.aIR1) : ST X (.Assign [.Name y py] (.ListComp elt [⟨tg, it, [], 0⟩] scope pos) spos :: rest) Γ E := fun B F H σ D L ed => by
  obtain ⟨wi, hi, run⟩ := hS
  refine WP.cons (ps_setLc (te := tBlkE X scope elt) hc hN hy hyl hsw hi ok hg (fun _ _ _ _ _ => pts_nil) (fun s H C cl fp => ⟨fun pins s' σ H' Q' I h => (h s H C cl fp).go pins s' I⟩) hs) ?_
  refine run B F H σ _ L fun J F1 H1 e1 Y A hA => ?_
  have L1 := L.step e1
  refine ⟨fun t m H' => m = xs.length - t ∧ t ≤ xs.length ∧ ∃ F2 acc, ∃ ys : List β, Ext F1 H1 F2 H' ∧ F2 A = none ∧ H' A = some (.lst acc) ∧ ys.length = t ∧ (∀ y ∈ ys, G y) ∧ Paired (fun u x => j.rp X.K F2 u x) acc ys,
    ⟨xs.length, rfl, Nat.zero_le _, F1, [], [], Ext.apart L1.same hA, L1.same.free hA, upd_same, rfl, fun _ z => (List.not_mem_nil z).elim, .nil⟩, ?_⟩
  rintro t m H2 ⟨rfl, ht', F2, acc, ys, e2, fD, hD2, hl, hG, pr⟩
  have Y2 := Y F2 H2 e2.ff e2.fh
  by_cases hlt : t < xs.length
  · have hx : xs[t]? = some xs[t] := List.getElem?_eq_getElem hlt
    have hmem : xs[t] ∈ xs := List.getElem_mem hlt
    obtain ⟨go, yl⟩ := Y2.1 t _ hx
    refine .inr ⟨go, fun H' => ∃ F3 acc, ∃ ys : List β, Ext F1 H1 F3 H' ∧ F3 A = none ∧ H' A = some (.lst acc) ∧ ys.length = t + 1 ∧ (∀ y ∈ ys, G y) ∧ Paired (fun u x => j.rp X.K F3 u x) acc ys, fun H' h => ⟨xs.length - (t + 1), by omega, rfl, hlt, h⟩, fun v H3 hy => ?_⟩
    obtain ⟨F3, e3, r3⟩ := yl v H3 hy
    have L3 := ((L1.step e2).wipe (own.map (·.2))).step e3
    refine hT.run B F3 H3 _ _ v _ _ L3 r3 fun σ2 L4 hw => ⟨by rw [hw, wipe_wipe], ?_⟩
    show ∀ (s : Shared) (H0 : Hp) (C : Addr) (cl : List (Str × Addr)) (fp : List Addr), WE (Blk X scope s H0 C cl fp) _ σ2 H3 _
    intro s H0 C cl fp
    refine he _ hmem s H0 C cl fp B F3 H3 σ2 _ L4 fun r w F5 H5 er e5 r5 => ?_
    obtain ⟨y, gy, rfl⟩ := er
    have e345 := e3.trans e5
    have hD5 : H5 A = some (.lst acc) := e345.hs _ _ hD2
    have fD5 : F5 A = none := e345.nw A fD (by rw [hD2]; exact fun z => nomatch z)
    have e25 := e2.trans e345
    have hla := Paired.length pr
    refine ⟨acc, hD5, by omega, F5, acc ++ [w], ys ++ [y], ⟨e25.ff, same_upd e25.fh fD5, fun b o nb ob => ?_, e25.nwM, fun _ z => z.elim⟩, fD5, upd_same, by rw [List.length_append, hl]; rfl, fun y' hy' => ?_, papp (Paired.mapP pr fun _ _ z => j.mono e345.ff z) (.cons r5 .nil)⟩
    · rw [upd_ne (ne_of_none ob hA)]; exact e25.hh b o nb ob
    · rcases List.mem_append.mp hy' with h | h
      · exact hG y' h
      · rw [List.mem_singleton.mp h]; exact gy
  · have et : t = xs.length := by omega
    subst et
    exact .inl ⟨Y2.2, hr A ys hl hG B F2 H2 _ D (L.putL _ (e1.trans e2) (e1.hs.free hA) fD hD2 pr) (ed.weak (e1.trans e2).ff)⟩
end
end Tw
namespace Tw
open PySem PySem.Spec PyProof.Rows L2 TL
structure Key4 where
  n : Tx
  r : Int
  c : Int
  k : Int
deriving DecidableEq
noncomputable def Key4.ks (x : Key4) : List Key := [.inr (sx x.n), .inl x.r, .inl x.c, .inl x.k]
theorem Key4.inj : ∀ x y : Key4, x.ks = y.ks → x = y := fun x y h => by
  obtain ⟨n, r, c, k⟩ := x
  obtain ⟨n', r', c', k'⟩ := y
  simp only [Key4.ks, List.cons.injEq, and_true] at h
  obtain ⟨h1, h2, h3, h4⟩ := h
  rw [sx_inj (Sum.inr.inj h1), Sum.inl.inj h2, Sum.inl.inj h3, Sum.inl.inj h4]
noncomputable instance repKey4 : Rep Key4 := ⟨fun _ F v x => ∃ b, v = .ref b ∧ F b = some (.tup (x.ks.map kV)), fun s ⟨b, e, h⟩ => ⟨b, e, s _ _ h⟩⟩
noncomputable instance dkKey4 : DKey Key4 := .ofT Key4.ks Key4.inj fun h => h
theorem Lc.updO2 {K : PySem.W.Frag} {B : Bs} {F H H' : Hp} {σ : L2.St} {Γ : List Slot} (L : Lc K B F H σ Γ) {k : Nat} {o o' : Own} {v : V} (hk : Γ[k]? = some (.own o)) (hv : σ[k]? = some (some v)) (keep : ∀ b u, b ∉ o.fp → H b = some u → H' b = some u) (old : ∀ b ∈ o.fp, H' b ≠ none)
    (fp : ∀ b ∈ o'.fp, b ∈ o.fp ∨ (F b = none ∧ B.nw b ∧ ∀ (q : Nat) o2, Γ[q]? = some (.own o2) → b ∉ o2.fp)) (ok : o'.ok K F H' v) : Lc K B F H' σ (Γ.set k (.own o')) := by
  obtain ⟨_, _, _, f⟩ := slot_own L hk
  have nfp : ∀ b u, F b = some u → b ∉ o.fp := fun b u q hb => by rw [(f b hb).1] at q; cases q
  refine ⟨⟨L.ext.ff, fun b u q => keep b u (nfp b u q) (L.same _ _ q), fun b u nb q => ?_, L.ext.nwM, fun x hx hb => ?_⟩, by simp [L.len], fun q t h => ?_, L.ap.putO k fun j o2 hj h b hb => ?_⟩
  · refine keep b u (fun hb => ?_) (L.ext.hh b u nb q)
    rcases (f b hb).2 with z | z
    · rw [z] at q; cases q
    · exact nb z
  · by_cases hm : x ∈ o.fp
    · exact old x hm
    · have := L.there x hx hb
      cases q : H x with
      | none => exact absurd q this
      | some u => rw [keep x u hm q]; exact fun z => nomatch z
  · rcases get_set_slot h with ⟨e1, e2, rfl⟩ | ⟨e1, hq⟩
    · subst e1
      rw [hv]
      refine ⟨v, rfl, ok, fun b hb => ?_⟩
      rcases fp b hb with z | z
      · exact f b z
      · exact ⟨z.1, z.2.1⟩
    · have old' := L.ok q t hq
      cases t with
      | no => trivial
      | val i x => exact old'
      | own o2 =>
        obtain ⟨u, eu, ok2, f2⟩ := old'
        exact ⟨u, eu, o2.stay (Same.refl F) (fun b hb w q1 => keep b w (fun hb2 => L.ap k q o o2 e1 hk hq b hb2 hb) q1) ok2, f2⟩
  · rcases fp b hb with z | z
    · exact L.ap k j o o2 hj hk h b z
    · exact z.2.2 j o2 h
noncomputable def ownC {α κ β : Type} (i : Rep α) [ik : Rep κ] [DecidableEq κ] [dk : DKey κ] (j : Rep β) (f1 f2 : Str) (C a dx da : Addr) (x : α) (l : List (κ × β)) : Own where
  fp := [a, dx, da]
  root := .ref a
  ok := fun K F H v => v = .ref a ∧ (a ≠ dx ∧ a ≠ da ∧ dx ≠ da) ∧ H dx = some (.own a) ∧ (∃ v1, H a = some (.ins C dx [(f1, v1), (f2, .ref da)]) ∧ i.rp K F v1 x) ∧ ∃ kvs, H da = some (dk.ho kvs) ∧ DRel j K F kvs l
  stay := fun s k ⟨e, n, h1, ⟨v1, h2, r⟩, kvs, h3, pr⟩ => ⟨e, n, k dx (by simp) _ h1, ⟨v1, k a (by simp) _ h2, i.mono s r⟩, kvs, k da (by simp) _ h3, Paired.mapP pr fun _ _ q => ⟨q.1, j.mono s q.2⟩⟩
  there := fun ⟨_, _, h1, ⟨_, h2, _⟩, _, h3, _⟩ b hb z => by
    have hb' : b = a ∨ b = dx ∨ b = da := by simpa using hb
    rcases hb' with rfl | rfl | rfl
    · rw [h2] at z; cases z
    · rw [h1] at z; cases z
    · rw [h3] at z; cases z
  rt := fun h => h.1
section
variable {X : Cx} {Γ : List Slot} {α β κ γ : Type} {i : Rep α} [ik : Rep κ] [DecidableEq κ] [dk : DKey κ] {j : Rep β} {lr : Rep γ} {pos p p2 p3 pos2 : Pos} {e a b c : Expr} {es : List Expr} {E : SE} {rest : List Stmt} {n f1 f2 : Str} {C ad dx da : Addr} {x : α} {l : List (κ × β)}
theorem ev_cfld (k : Nat) (hc : Cls X.K C) (hn : NoAttr X.K C f1) (hg : autoParam (Γ[k]? = some (.own (ownC i j f1 f2 C ad dx da x l))) aRfl) (hN : autoParam (X.N[k]? = some n) aRfl)
    (hv : autoParam (Vis X.env.scope n) aVis) (hd : autoParam ((n == ("__debug__" : Str)) = false) aDec) (hcd : autoParam ((n == ("__classdict__" : Str)) = false) aDec) (hb : autoParam (attributeBase (.Name n p) f1 X.env (eval (.Name n p) X.env) = eval (.Name n p) X.env) aRfl) : EV X Γ (.Attribute (.Name n p) f1 pos) x := fun B F H σ Q L q => by
  obtain ⟨v, ev, ⟨rfl, _, h1, ⟨v1, h2, r⟩, _⟩, _⟩ := slot_own L hg
  exact WE.of (pe_fld (pe_var hN hv hd hcd) hb) ⟨_, ev, ad, C, dx, _, v1, rfl, h2, hc, hn, lookup_eq, q v1 F H (Ext.refl L.same) r⟩
theorem ev_cget (k : Nat) {key : κ} {y : β} {kk : Nat} (hr : Room kk X.A) (hne : f1 ≠ f2) (hc : Cls X.K C) (hn : NoAttr X.K C f2) (hb : EV X Γ b key) (hy : look l key = some y) (hg : autoParam (Γ[k]? = some (.own (ownC i j f1 f2 C ad dx da x l))) aRfl) (hN : autoParam (X.N[k]? = some n) aRfl)
    (hv : autoParam (Vis X.env.scope n) aVis) (hd : autoParam ((n == ("__debug__" : Str)) = false) aDec) (hcd : autoParam ((n == ("__classdict__" : Str)) = false) aDec) (hbs : autoParam (attributeBase (.Name n p) f2 X.env (eval (.Name n p) X.env) = eval (.Name n p) X.env) aRfl) (hp : autoParam (NoSl b) Tw.aIR2) :
    EV X Γ (.Subscript (.Attribute (.Name n p) f2 pos2) b pos) y := fun B F H σ Q L q => by
  obtain ⟨v, ev, ⟨rfl, _, h1, ⟨v1, h2, r⟩, _⟩, _⟩ := slot_own L hg
  refine WE.of (pe_dget (by have := hr.units; omega) (pe_fld (pe_var hN hv hd hcd) hbs) peW hp) ⟨_, ev, ad, C, dx, _, .ref da, rfl, h2, hc, hn, by rw [lookup_ne hne.symm, lookup_eq], hb B F H σ _ L fun u F1 H1 e1 r1 => ?_⟩
  have L1 := L.step e1
  obtain ⟨_, _, ⟨_, _, _, _, kvs, h3, pr⟩, _⟩ := slot_own L1 hg
  obtain ⟨w, hw, rw'⟩ := (DRel.val pr).2 y hy
  refine ⟨da, w, rfl, ?_, q w F1 H1 e1 rw'⟩
  rw [← hw]
  exact dk.get L1.same h3 r1
theorem st_cinit (k : Nat) {p' : Pos} (κ : Type) [ik : Rep κ] [DecidableEq κ] [dk : DKey κ] {β : Type} (j : Rep β) (hr : ∀ da, ST X rest (Γ.set k (.own (ownC i j f1 f2 C ad dx da x ([] : List (κ × β))))) E) (hne : f1 ≠ f2) (hc : Cls X.K C) (hn : NoAttr X.K C f2)
    (hg : autoParam (Γ[k]? = some (.own (ownI C ad dx [(f1, .val i x)]))) aRfl) (hN : autoParam (X.N[k]? = some n) aRfl) (hv : autoParam (Vis X.env.scope n) aVis) (hd : autoParam ((n == ("__debug__" : Str)) = false) aDec) (hcd : autoParam ((n == ("__classdict__" : Str)) = false) aDec)
    (hs : autoParam (swapsWith (.Dict [] [] p3) (some (.Attribute (.Name n p) f2 p')) pos.line X.env = pure false) aRfl) : ST X (.Assign [.Attribute (.Name n p) f2 p'] (.Dict [] [] p3) pos :: rest) Γ E := fun B F H σ D L ed => by
  obtain ⟨v, ev, ok, _⟩ := slot_own L hg
  obtain ⟨rfl, _⟩ := ok
  refine WP.cons (ps_fld (pe_var hN hv hd hcd) peW hs) (exo_dict κ j B F H σ _ L fun r u F1 H1 er e1 ok => ⟨_, ev, ?_⟩)
  subst er
  obtain ⟨o, ⟨da, rfl⟩, new, ⟨rfl, kvs, h3, pr⟩⟩ := ok
  have hda := new da (List.mem_singleton.mpr rfl)
  have L1 := L.step e1
  obtain ⟨v', ev', ⟨_, nn, h1, fv, h2, r⟩, f1'⟩ := slot_own L1 hg
  obtain ⟨_, _, ⟨_, _, g1, fv0, g2, _⟩, _⟩ := slot_own L hg
  have hHda : H da = none := hda.1
  have n2 : ad ≠ da := fun z => by rw [z, hHda] at g2; cases g2
  have n3 : dx ≠ da := fun z => by rw [z, hHda] at g1; cases g1
  match fv, r with
  | [(g, w)], r =>
  obtain ⟨rfl, rw1, _⟩ := r
  refine ⟨ad, C, dx, [(g, w)], rfl, h2, hc, hn, by simp, ?_⟩
  have ep : putF f2 (V.ref da) [(g, w)] = [(g, w), (f2, .ref da)] := by rw [putF_new (by rw [lookup_ne hne.symm]; rfl)]; rfl
  rw [ep]
  refine hr da B F1 _ σ D (L1.updO2 hg ev (fun b u hb q => ?_) (fun b hb => ?_) (fun b hb => ?_) ⟨rfl, ⟨nn, n2, n3⟩, ?_, ⟨w, upd_same, rw1⟩, kvs, ?_, pr⟩) (ed.weak e1.ff)
  · rw [upd_ne (fun z => hb (by rw [z]; show ad ∈ [ad, dx]; simp))]; exact q
  · by_cases hba : b = ad
    · rw [hba, upd_same]; exact fun z => nomatch z
    · rw [upd_ne hba]
      have hb' : b = ad ∨ b = dx := by
        have : b ∈ [ad, dx] := hb
        simpa using this
      rcases hb' with rfl | rfl
      · exact absurd rfl hba
      · rw [h1]; exact fun z => nomatch z
  · have hb' : b = ad ∨ b = dx ∨ b = da := by
      have : b ∈ [ad, dx, da] := hb
      simpa using this
    rcases hb' with rfl | rfl | rfl
    · exact .inl (by show b ∈ [b, dx]; simp)
    · exact .inl (by show b ∈ [ad, b]; simp)
    · exact .inr ⟨hda.2, L.nw hHda, fun q o2 hq => L.ne_own hHda hq⟩
  · rw [upd_ne (Ne.symm nn)]; exact h1
  · rw [upd_ne (Ne.symm n2)]; exact h3
theorem eg_methC (k : Nat) {m cn : Str} {kk : Nat} {ps : List Str} {S : Spec} {A : List Slot} {P : Ret → List Slot → Prop} {R : Exn → List Slot → Prop} {G : γ → Own → Prop} {apos : Pos} {pl : Sem Bool} (hc : OC X.K X.mg cn) (GH : HasM X.prog X.w X.K X.mg X.base kk cn m ps S) (hr : Room kk X.A)
    (hC : PySem.W.nsIn X.K mainGlobals cn = some (some (.ref C))) (hm1 : m ≠ f1) (hm2 : m ≠ f2) (ha : EA X Γ (e :: es) A) (hA : noOwn A = true) (hg : Γ[k]? = some (.own (ownC i j f1 f2 C ad dx da x l)))
    (hG : ∀ x' o', G x' o' → o'.root = V.ref ad) (hP : ∀ x' o', G x' o' → P (.val lr x') (Γ.set k (.own o'))) (hS : ∀ P' R', (∀ x' o', G x' o' → P' (.chg lr x' [o'])) → (∀ y, R y (Γ.set k .no) → R' y) → S (.own (ownC i j f1 f2 C ad dx da x l) :: A) P' R')
    (hN : autoParam (X.N[k]? = some n) aRfl) (hv : autoParam (Vis X.env.scope n) aVis) (hd : autoParam ((n == ("__debug__" : Str)) = false) aDec) (hcd : autoParam ((n == ("__classdict__" : Str)) = false) aDec)
    (hst : autoParam (starEach (e :: es) X.env = (false, eval e X.env) :: starEach es X.env) aStar) (hpl : autoParam ((backTo pos (starEach es X.env)).any (·.1) = false) aPl)
    (ht : autoParam (eval (.Call (.Attribute (.Name n p) m apos) (e :: es) [] pos) X.env = (do
      let ov ← eval (.Name n p) X.env
      standAt apos.atName
      let (f, first) ← holding [ov] (getMethod ov m pl)
      callWith pos f first (backTo pos (starEach (e :: es) X.env)) (backToKw pos (keywordEach [] X.env)))) aRfl) : EG X Γ (.Call (.Attribute (.Name n p) m apos) (e :: es) [] pos) P R := fun B F H σ Q L q z => by
  obtain ⟨C', kC, gC⟩ := hc
  obtain rfl := ns_one kC.ns hC
  obtain ⟨f, fd, hM, hb, GF⟩ := GH.ex C kC.ns
  obtain ⟨v, ev, ok, fo⟩ := slot_own L hg
  obtain ⟨rfl, ne, h1, ⟨v1, h2, r1⟩, _⟩ := id ok
  refine ⟨fun pins s I => ?_⟩
  refine PySem.W.methodCall_KW (pl := pl) (thn ((pe_var (pos := p) hN hv hd hcd).run pins s σ H (fun v' H1 => v' = .ref ad ∧ H1 = H) I ⟨.ref ad, ev, rfl, rfl⟩) fun u s1 ⟨v', H1, I1, rv1, e1, e2⟩ => ?_) ht
  subst e1 e2
  obtain rfl : u = Value.ref ad := rv1
  refine getmeth_ok I1 h2 kC.cl hM (by rw [lookup_ne hm1, lookup_ne hm2]; rfl) ?_
  refine PySem.W.callWith_K (first := [.ref ad]) (h₀ := X.base) I.ok.mod.kin hM.kp (thn ((ha B F _ σ (fun vs H2 => ∃ F2, Ext F H1 F2 H2 ∧ VsOk X.K F2 vs A) L (fun vs F2 H2 e2 r2 => ⟨F2, e2, r2⟩)).go pos pins s1 I1) fun us s2 ⟨vs, H2, I2, rvs, F2, e2, r2⟩ => ⟨I2.kIn, ?_⟩) hst hpl
  have rA : VsOkO X.K F2 H2 (.ref ad :: vs) (.own (ownC i j f1 f2 C ad dx da x l) :: A) := ⟨(ownC i j f1 f2 C ad dx da x l).stay e2.ff (fun b _ u z => e2.hs _ _ z) ok, fun b hb => e2.nw b (fo b hb).1 ((ownC i j f1 f2 C ad dx da x l).there ok b hb), r2.toO⟩
  refine run_fnS (E := fun σ cls d H => XW X cls d σ H) (us := .ref ad :: us) (vs := .ref ad :: vs) GF hr hb (passAt takesW σ) I2 (.cons rfl rvs) ?_
  exact ⟨F2, _, (L.step e2).same, rA, apart_one hA, hS _ _ (fun x' o' hx => borrow_rets hg L e2 (fun b m => ma_one hA m) hG hP q hx) fun y hy => borrow_exns hg L e2 (fun b m => ma_one hA m) z hy⟩
theorem eg_imp {P P' : Ret → List Slot → Prop} {R : Exn → List Slot → Prop} (h : EG X Γ e P R) (f : ∀ r Γ', P r Γ' → P' r Γ') : EG X Γ e P' R := fun B F H σ Q L q z => h B F H σ Q L (fun r v F' H' Γ' hp s L' ok => q r v F' H' Γ' (f r Γ' hp) s L' ok) z
end
end Tw
namespace Tw
open PySem PySem.Spec PyProof.Rows L2 TL
end Tw
namespace Tw
open PySem PySem.Spec PyProof.Rows L2 TL
section
variable {K : PySem.W.Frag} {B : Bs} {F H F' H' : Hp} {σ : L2.St} {Γ : List Slot} {M : Addr → Prop}
theorem Lc.back2 (L : Lc K B F H σ Γ) (e : ExtM M F H F' H') {k1 k2 : Nat} {o1 o1' o2 o2' : Own} (hne : k1 ≠ k2) (hg1 : Γ[k1]? = some (.own o1)) (hg2 : Γ[k2]? = some (.own o2)) (hM : ∀ b, M b → b ∈ o1.fp ∨ b ∈ o2.fp)
    (ok1 : o1'.ok K F' H' o1'.root) (f1 : ∀ b ∈ o1'.fp, (H b = none ∨ M b) ∧ F' b = none) (hr1 : o1'.root = o1.root) (ok2 : o2'.ok K F' H' o2'.root) (f2 : ∀ b ∈ o2'.fp, (H b = none ∨ M b) ∧ F' b = none) (hr2 : o2'.root = o2.root) (dj : ∀ b ∈ o1'.fp, b ∉ o2'.fp) :
    Lc K B F' H' σ ((Γ.set k1 (.own o1')).set k2 (.own o2')) := by
  obtain ⟨v1, ev1, kk1, g1⟩ := slot_own L hg1
  obtain ⟨v2, ev2, kk2, g2⟩ := slot_own L hg2
  have nwM : ∀ b, M b → B.nw b := fun b m => (hM b m).elim (fun h => (g1 b h).2) fun h => (g2 b h).2
  have here : ∀ b u, ¬ B.M b → B.H b = some u → ¬ M b := fun b u nb q m => (nwM b m).elim (fun z => by rw [z] at q; cases q) nb
  have oth : ∀ (q : Nat) o, k1 ≠ q → k2 ≠ q → Γ[q]? = some (.own o) → ∀ b ∈ o.fp, ¬ M b := fun q o n1 n2 hq b hb m => (hM b m).elim (fun h => L.ap k1 q o1 o n1 hg1 hq b h hb) fun h => L.ap k2 q o2 o n2 hg2 hq b h hb
  have dis : ∀ (q : Nat) o, k1 ≠ q → k2 ≠ q → Γ[q]? = some (.own o) → ∀ b, (H b = none ∨ M b) → b ∉ o.fp := fun q o n1 n2 hq b h hb => h.elim (fun w => L.ne_own w hq hb) fun m => oth q o n1 n2 hq b hb m
  have nws : ∀ b, (H b = none ∨ M b) → B.nw b := fun b h => h.elim (fun w => L.nw w) (nwM b)
  refine ⟨⟨L.ext.ff.trans e.ff, e.fh, fun b u nb q => e.hh b u (here b u nb q) (L.ext.hh b u nb q), fun b nb h1 h2 => ?_, fun b hb h => ?_⟩, by simp [L.len], fun q t hq => ?_, fun i j oa ob hij h1 h2 b ha hb => ?_⟩
  · cases q : B.H b with
    | none => exact absurd q h2
    | some u => exact e.nwM b (here b u nb q) (L.ext.nwM b nb h1 h2) (by rw [L.ext.hh b u nb q]; exact fun z => nomatch z)
  · have := L.ext.th b hb h
    by_cases m : M b
    · exact e.th b m this
    · cases q : H b with
      | none => exact absurd q this
      | some u => rw [e.hh b u m q]; exact fun z => nomatch z
  · rcases get_set_slot hq with ⟨e1, _, rfl⟩ | ⟨e1, hq⟩
    · subst e1
      rw [ev2]
      refine ⟨v2, rfl, by rw [o2.rt kk2, ← hr2]; exact ok2, fun b hb => ⟨(f2 b hb).2, nws b (f2 b hb).1⟩⟩
    rcases get_set_slot hq with ⟨e2, _, rfl⟩ | ⟨e2, hq⟩
    · subst e2
      rw [ev1]
      refine ⟨v1, rfl, by rw [o1.rt kk1, ← hr1]; exact ok1, fun b hb => ⟨(f1 b hb).2, nws b (f1 b hb).1⟩⟩
    · have old := L.ok q t hq
      cases t with
      | no => trivial
      | val i x => obtain ⟨v, e2, r⟩ := old; exact ⟨v, e2, i.mono e.ff r⟩
      | own o =>
        obtain ⟨u, eu, ok, f⟩ := old
        have nM := oth q o e2 e1 hq
        exact ⟨u, eu, o.stay e.ff (fun b hb w z => e.hh b w (nM b hb) z) ok, fun b hb => ⟨e.nwM b (nM b hb) (f b hb).1 (o.there ok b hb), (f b hb).2⟩⟩
  · rcases get_set_slot h1 with ⟨e1, _, ea⟩ | ⟨e1, h1⟩
    · cases ea
      rcases get_set_slot h2 with ⟨e3, _, eb⟩ | ⟨e3, h2⟩
      · exact hij (e1.symm.trans e3)
      rcases get_set_slot h2 with ⟨e4, _, eb⟩ | ⟨e4, h2⟩
      · cases eb; exact dj b hb ha
      · exact dis j ob e4 e3 h2 b (f2 b ha).1 hb
    rcases get_set_slot h1 with ⟨e2, _, ea⟩ | ⟨e2, h1⟩
    · cases ea
      rcases get_set_slot h2 with ⟨e3, _, eb⟩ | ⟨e3, h2⟩
      · cases eb; exact dj b ha hb
      rcases get_set_slot h2 with ⟨e4, _, eb⟩ | ⟨e4, h2⟩
      · exact hij (e2.symm.trans e4)
      · exact dis j ob e4 e3 h2 b (f1 b ha).1 hb
    · rcases get_set_slot h2 with ⟨e3, _, eb⟩ | ⟨e3, h2⟩
      · cases eb; exact dis i oa e2 e1 h1 b (f2 b hb).1 ha
      rcases get_set_slot h2 with ⟨e4, _, eb⟩ | ⟨e4, h2⟩
      · cases eb; exact dis i oa e2 e1 h1 b (f1 b hb).1 ha
      · exact L.ap i j oa ob hij h1 h2 b ha hb
end
theorem ma_two {o1 o2 : Own} {A : List Slot} (h : noOwn A = true) {b : Addr} (m : MA (.own o1 :: .own o2 :: A) b) : b ∈ o1.fp ∨ b ∈ o2.fp := by
  rcases MA_cons m with ⟨o', z, hb⟩ | m
  · cases z; exact .inl hb
  · exact .inr (ma_one h m)
end Tw
namespace Tw
open PySem PySem.Spec PyProof.Rows L2 TL
end Tw
namespace Tw
open PySem PySem.Spec PyProof.Rows L2 TL
section
variable {X : Cx} {Γ Γ1 : List Slot} {α β γ : Type} {i : Rep α} {j : Rep β} {l : Rep γ} {pos p p2 p3 pos2 : Pos} {e a b c elt tg it : Expr} {es : List Expr} {E : SE} {rest body : List Stmt}
noncomputable def SrcG (X : Cx) (Γ : List Slot) (tg it : Expr) {α : Type} [i : Rep α] (N : List α → List Slot → Prop) : Prop :=
  ∃ wi, PI X tg it wi ∧ ∀ B F H σ R, Lc X.K B F H σ Γ → (∀ xs Γ1 J F1 H1, N xs Γ1 → Same F F1 → Lc X.K B F1 H1 σ Γ1 → Yields X.K J F1 xs → R J H1) → wi σ H R
theorem srcG_list {N : List α → List Slot → Prop} (h : EG X Γ it (fun r Γ' => ∃ xs, N xs Γ' ∧ r = .val repList xs) (fun _ _ => False)) : SrcG X Γ tg it N := ⟨_, pi_list peW, fun B F H σ R L q => h B F H σ _ L (fun r v F1 H1 Γ1 ⟨xs, hN, er⟩ s0 L1 r1 => by
  subst er
  obtain ⟨ad, vs, rfl, ha, pr⟩ := r1
  refine ⟨ad, rfl, ⟨vs, sq_of L1.same ha⟩, q xs Γ1 _ F1 H1 hN s0 L1 fun F2 H2 s1 s2 => ⟨fun k x hx => ?_, vs, sq_of s2 (s1 _ _ ha), by rw [Paired.length pr]; exact Nat.le_refl _⟩⟩
  obtain ⟨w, hw, rw'⟩ := pgetL pr hx
  refine ⟨⟨vs, w, sq_of s2 (s1 _ _ ha), hw⟩, fun v H3 hy => ?_⟩
  obtain ⟨rfl, hy⟩ := hy
  have : v = w := Option.some.inj ((hy vs (sq_of s2 (s1 _ _ ha))).symm.trans hw)
  subst this
  exact ⟨F2, Ext.refl s2, i.mono s1 rw'⟩) fun x u d F1 H1 Γ2 z _ _ _ => z.elim⟩
theorem st_forG {N : List α → List Slot → Prop} {bind : α → List Slot → List Slot} {vs : List Nat} {g : TG} (hS : SrcG X Γ tg it N) (hT : Tg X.K g bind vs)
    (h : ∀ xs Γ1, N xs Γ1 → ∃ P : Nat → List Slot → Prop, P 0 Γ1 ∧ (∀ (k : Nat) x Γ', xs[k]? = some x → P k Γ' → ST X body (bind x Γ') { nx := P (k + 1), ct := P (k + 1), bk := fun Γ2 => ST X rest Γ2 E, rt := E.rt, ex := E.ex }) ∧ (∀ Γ', P xs.length Γ' → ST X rest Γ' E))
    (hg : PG X tg g) (hp : autoParam (PassesOwn (model X.prog X.w) X.A X.env X.xe) Tw.aPass) (hc : autoParam (X.calm = true) aRfl) (hs : autoParam (∀ x, foldedSetIterable it X.env x = pure x) Tw.aIR1) :
    ST X (.For tg it body [] pos :: rest) Γ E := fun B F H σ D L ed => by
  obtain ⟨wi, hi, run⟩ := hS
  refine WP.cons (ps_for hp hc hi hg psW hs) (run B F H σ _ L fun xs Γ1 J F1 H1 hN s0 L1 Y => ?_)
  obtain ⟨P, h0, hb, hd⟩ := h xs Γ1 hN
  refine ⟨fun t m σ H => m = xs.length - t ∧ t ≤ xs.length ∧ ∃ F2 Γ', P t Γ' ∧ Same F1 F2 ∧ Lc X.K B F2 H σ Γ', ⟨xs.length, rfl, Nat.zero_le _, F1, Γ1, h0, Same.refl _, L1⟩, ?_⟩
  rintro t m σ H ⟨rfl, ht, F2, Γ', hP, s12, L2⟩
  have Y2 := Y F2 H s12 L2.same
  by_cases hlt : t < xs.length
  · have hx : xs[t]? = some xs[t] := List.getElem?_eq_getElem hlt
    obtain ⟨go, yl⟩ := Y2.1 t _ hx
    refine .inr ⟨go, fun σ' H' => ∃ F3 Γ3, P (t + 1) Γ3 ∧ Same F1 F3 ∧ Lc X.K B F3 H' σ' Γ3, fun σ' H' h => ⟨xs.length - (t + 1), by omega, rfl, hlt, h⟩, fun v H3 hy => ?_⟩
    obtain ⟨F3, e3, r3⟩ := yl v H3 hy
    refine hT.run B F3 H3 σ Γ' v _ _ (L2.step e3) r3 fun σ2 L4 _ => ?_
    refine hb t _ Γ' hx hP B F3 H3 σ2 _ L4 ⟨fun F5 H5 σ5 Γ5 s5 h5 L5 => ?_, ed.rt, fun F5 H5 σ5 Γ5 s5 h5 L5 => h5 B F5 H5 σ5 D L5 (ed.weak (s0.trans (s12.trans (e3.ff.trans s5)))), fun F5 H5 σ5 Γ5 s5 h5 L5 => ?_, fun F5 H5 σ5 Γ5 x u d s5 h5 L5 => ed.ex F5 H5 σ5 Γ5 x u d (s0.trans (s12.trans (e3.ff.trans s5))) h5 L5⟩
    · exact ⟨F5, Γ5, h5, s12.trans (e3.ff.trans s5), L5⟩
    · exact ⟨F5, Γ5, h5, s12.trans (e3.ff.trans s5), L5⟩
  · have et : t = xs.length := by omega
    subst et
    exact .inl ⟨Y2.2, hd Γ' hP B F2 H σ D L2 (ed.weak (s0.trans s12))⟩
noncomputable def ETG (X : Cx) (Γ : List Slot) (c : Expr) (N : Bool → List Slot → Prop) : Prop :=
  ∀ B F H σ Q, Lc X.K B F H σ Γ → (∀ k F' H' Γ', N k Γ' → Same F F' → Lc X.K B F' H' σ Γ' → Q k H') → WT X c σ H Q
theorem st_ifG {N : Bool → List Slot → Prop} {A C : List Stmt} (hc : ETG X Γ c N) (hA : ∀ Γ', N true Γ' → ST X A Γ' { E with nx := fun Γ' => ST X rest Γ' E }) (hC : ∀ Γ', N false Γ' → ST X C Γ' { E with nx := fun Γ' => ST X rest Γ' E }) : ST X (.If c A C pos :: rest) Γ E := fun B F H σ D L ed =>
  WP.cons (ps_if ptW psW psW) (hc B F H σ _ L fun k F1 H1 Γ1 hN s1 L1 => by
    cases k with
    | true => exact hA Γ1 hN B F1 H1 σ _ L1 ((ed.weak s1).seq)
    | false => exact hC Γ1 hN B F1 H1 σ _ L1 ((ed.weak s1).seq))
end
section
variable {X : Cx} {Γ : List Slot} {α β γ κ δ : Type} {i : Rep α} {j : Rep β} {lr : Rep γ} [ik : Rep κ] [DecidableEq κ] [dk : DKey κ] {pos p : Pos} {e : Expr} {es : List Expr} {f1 f2 : Str} {x : α}
theorem ex_makeC {cn : Str} {k0 : Nat} {ps0 : List Str} {S0 : Spec} {A0 : List Slot} {e0 : Expr} {es0 : List Expr} {cpos : Pos} (hc : OC X.K X.mg cn) (G0 : HasM X.prog X.w X.K X.mg X.base k0 cn "__init__" ps0 S0) (hr0 : Room (k0 + 1) X.A)
    (ha0 : EA X Γ (e0 :: es0) A0) (hA0 : noOwn A0 = true)
    (hS0 : ∀ C, PySem.W.nsIn X.K mainGlobals cn = some (some (.ref C)) → ∀ ad dx, ∀ P' R', (∀ da, P' (.chg repUnit () [ownC i j f1 f2 C ad dx da x ([] : List (κ × β))])) → S0 (.own (ownI C ad dx []) :: A0) P' R')
    (hgl : autoParam (Gl X cn) aRfl) (hd : autoParam ((cn == ("__debug__" : Str)) = false) aDec) (he0 : autoParam (starEach (e0 :: es0) X.env = (false, eval e0 X.env) :: starEach es0 X.env) aStar) (hpl0 : autoParam ((backTo cpos (starEach es0 X.env)).any (·.1) = false) aPl) :
    EX X Γ (.Call (.Name cn p) (e0 :: es0) [] cpos) (fun r => r = .own fun o => ∃ C ad dx da, PySem.W.nsIn X.K mainGlobals cn = some (some (.ref C)) ∧ o = ownC i j f1 f2 C ad dx da x ([] : List (κ × β))) := fun B F H σ Q L q => by
  obtain ⟨C, kC, gC⟩ := hc
  obtain ⟨f, fd, hM, hb, GF⟩ := G0.ex C kC.ns
  have M : Mk X.K C f := ⟨kC.mks, hM.at_, hM.fn, kC.kp⟩
  refine ⟨fun pins s I => ?_⟩
  refine wpAny_Call_Name_kw (ld_glob I hgl gC ?_ hd)
  refine PySem.W.callWith_K (h₀ := X.base) I.ok.mod.kin kC.kp (thn ((ha0 B F H σ (fun vs H1 => ∃ F1, Ext F H F1 H1 ∧ VsOk X.K F1 vs A0) L (fun vs F1 H1 e1 r1 => ⟨F1, e1, r1⟩)).go cpos pins s I) fun us s1 ⟨vs, H1, I1, rvs, F1, e1, r1⟩ => ⟨I1.kIn, ?_⟩) he0 hpl0
  refine run_makeS (EE := fun cls d H => XW X cls d σ H) M GF hr0 hb (passAt takesW σ) I1 rvs fun ad dx had hdx hne' => ?_
  have s1' := (L.step e1).same
  have ea : Ext F1 H1 F1 (upd (upd H1 dx (.own ad)) ad (.ins C dx [])) := by
    have x1 := Ext.apart (o := .own ad) s1' hdx
    exact x1.trans (Ext.apart (o := .ins C dx []) x1.fh (by rw [upd_ne (Ne.symm hne')]; exact had))
  have maN : ∀ b, MA (.own (ownI C ad dx []) :: A0) b → H1 b = none := fun b m => by
    have hb := ma_one hA0 m
    have hb' : b = ad ∨ b = dx := by
      have : b ∈ [ad, dx] := hb
      simpa using this
    rcases hb' with rfl | rfl
    · exact had
    · exact hdx
  have fN : ∀ b ∈ [ad, dx], F1 b = none := fun b hb => by
    have hb' : b = ad ∨ b = dx := by simpa using hb
    rcases hb' with rfl | rfl
    · exact s1'.free had
    · exact s1'.free hdx
  have toExt : ∀ {F2 H2}, ExtM (MA (.own (ownI C ad dx []) :: A0)) F1 (upd (upd H1 dx (.own ad)) ad (.ins C dx [])) F2 H2 → Ext F H F2 H2 := fun {F2 H2} x => e1.trans (ea.thenM x maN)
  have toN : ∀ b, Bs.nw ⟨F1, upd (upd H1 dx (.own ad)) ad (.ins C dx []), MA (.own (ownI C ad dx []) :: A0)⟩ b → H b = none := fun b h => h.elim (fun w => e1.hs.free (ea.hs.free w)) fun m => e1.hs.free (maN b m)
  refine ⟨F1, .own (ownI C ad dx []) :: A0, ea.fh, ⟨⟨rfl, Ne.symm hne', ?_, [], upd_same, trivial⟩, fN, r1.toO⟩, apart_one hA0, hS0 C kC.ns ad dx _ _ fun da v F2 H2 x2 ok => ?_⟩
  · rw [upd_ne hne', upd_same]
  · obtain ⟨rv0, fo, _⟩ := ok
    obtain ⟨ok', f'⟩ := fo _ (List.mem_singleton.mpr rfl)
    exact ⟨rv0, q (.own fun o => ∃ C ad dx da, PySem.W.nsIn X.K mainGlobals cn = some (some (.ref C)) ∧ o = ownC i j f1 f2 C ad dx da x ([] : List (κ × β))) (.ref ad) F2 H2 rfl (toExt x2) ⟨_, ⟨C, ad, dx, da, kC.ns, rfl⟩, fun b hb => ⟨toN b (f' b hb).1, (f' b hb).2⟩, ok'⟩⟩
end
end Tw
namespace Tw
open PySem PySem.Spec PyProof.Rows L2 TL
end Tw
namespace Tw
open PySem PySem.Spec PyProof.Rows L2 TL
end Tw
namespace L2
open PySem PySem.Spec PyProof.Rows PySem.W PySem.Calls PyProof.V
end L2
namespace L2
open PySem PySem.Spec PyProof.Rows PySem.W PySem.Calls
section
variable {X : Cx} {pins : List (Addr × Obj)} {σ : St} {H : Hp} {s : Shared} {A : Around} {β : Type} {a kS : Addr} {b : Bool} {vs : List Value} {e1 : Nat} {P : PySem.Fin → Shared → Prop} {k : β → PyData} {bs : List β} {f : Value}
theorem pin_fp {q : Addr} {o : Obj} (I : Inv X ((q, o) :: pins) σ H s) (h0 : X.s_0.heap.objs.size ≤ q) (hp : ∀ p ∈ X.pn ++ pins, p.1 ≠ q) : FpOk X pins H q ∧ s.heap.get? q = some o := by
  obtain ⟨p1, p2, p3, p4, p5⟩ := I.pin (q, o) (List.mem_append_right _ (List.mem_cons_self ..))
  refine ⟨⟨p2, p3, p4, .inr h0, fun x c e z => ?_, hp⟩, p1⟩
  obtain ⟨v, o', ho, hd⟩ := I.cell x c e
  rw [z, p1] at ho
  cases ho
  exact p5 v hd
theorem unpin {q : Addr × Obj} (I : Inv X (q :: pins) σ H s) : Inv X pins σ H s := I.pins_of fun p hp => I.pin p (List.mem_append_right _ (List.mem_cons_of_mem _ hp))
theorem repin {q : Addr} {o : Obj} (I : Inv X pins σ H s) (fp : FpOk X pins H q) (h : s.heap.get? q = some o) (hc : ∀ v, o.data ≠ .cell v) : Inv X ((q, o) :: pins) σ H s := I.pins_of fun p hp => by
  rcases List.mem_cons.mp hp with z | z
  · rw [z]; exact ⟨h, fp.1, fp.2.1, fp.2.2.1, hc⟩
  · exact I.pin p (List.mem_append_right _ z)
theorem keyI_rest (hka : kS ≠ a) (I : Inv X ((kS, seqObj "list" #[] 0) :: (a, seqObj "list" #[] e1) :: pins) σ H s) (hk0 : X.s_0.heap.objs.size ≤ kS) (ha0 : X.s_0.heap.objs.size ≤ a) (hkp : ∀ p ∈ X.pn ++ pins, p.1 ≠ kS) (hap : ∀ p ∈ X.pn ++ pins, p.1 ≠ a)
    (hlen : bs.length = vs.length) (hZ : vs.length ≤ sizeLine) (hal : AllAlike (bs.map k)) (hsk : Sortable (bs.map k)) (hu : ∀ d, d ∈ bs.map k → A.units + d.depth < cLine)
    (turn : ∀ (j : Nat) (u : Value) (x : β), vs[j]? = some u → bs[j]? = some x → ∀ (H' : Hp) (pins' : List (Addr × Obj)) (s' : Shared), (∀ c o, H c = some o → H' c = some o) → Inv X pins' σ H' s' → ∀ Qk : VK, (∀ v H'', (∀ c o, H' c = some o → H'' c = some o) → Dp X.K H'' v (k x) → Qk v H'') →
      wpAny (model X.prog X.w) A (call f [u]) (EP X pins' σ Qk) (fun _ _ => False) s')
    (dm : ∀ (H' H'' : Hp) (v : V) (d : PyData), (∀ c o, H' c = some o → H'' c = some o) → Dp X.K H' v d → Dp X.K H'' v d)
    (h : ∀ H' s' out c, (∀ c o, H c = some o → H' c = some o) → Inv X pins σ H' s' → FpOk X pins H' a → s'.heap.get? a = some (seqObj "list" (List.toArray out) c) → KeyedOut b (bs.map k) vs out → P (.done (.ret .none)) s') :
    wpAny (model X.prog X.w) A (ksk_rest a f b vs.toArray e1 (.ref kS)) P X.xe s := by
  unfold ksk_rest
  refine wpAny_bind (wpAny_rule ?_)
  first
    | rw [List.forIn_toArray]
    | (rw [← Array.forIn_toList]; simp only [List.toList_toArray])
    | rw [← Array.forIn_toList]
  refine wpAny_bind (ksk_fold (fun i s' => ∃ H' kA e, (∀ c o, H c = some o → H' c = some o) ∧ Inv X ((kS, seqObj "list" kA e) :: (a, seqObj "list" #[] e1) :: pins) σ H' s' ∧ EachIs (fun u x => ∃ v, RelV v u ∧ Dp X.K H' v (k x)) kA.toList (bs.take i)) vs 0 s
    ⟨H, #[], 0, fun _ _ q => q, I, by rw [List.take_zero]; exact EachIs.nil⟩ ?step ?done)
  case step =>
    rintro j u s' hx ⟨H', kA, e, hs, I', hk⟩
    simp only [Nat.zero_add] at hk ⊢
    have hj : j < vs.length := (List.getElem?_eq_some_iff.mp hx).1
    obtain ⟨x, hkj⟩ : ∃ x, bs[j]? = some x := ⟨_, List.getElem?_eq_getElem (by omega)⟩
    have hz : kA.size ≤ vs.length := by
      have h1 := hk.length
      rw [Array.length_toList, List.length_take] at h1
      omega
    refine wpAny_bind (wpAny_attempt (wpAny_mono (turn j u x hx hkj H' _ s' hs I' (fun v H'' => (∀ c o, H' c = some o → H'' c = some o) ∧ Dp X.K H'' v (k x)) fun v H'' h1 h2 => ⟨h1, h2⟩) (fun v s'' he => ?_) fun _ _ hF => hF.elim))
    obtain ⟨vv, H'', I'', rv, h1, h2⟩ := he
    try dsimp only
    have hka' : ∀ p ∈ X.pn ++ ((a, seqObj "list" #[] e1) :: pins), p.1 ≠ kS := fun p hp => by
      rcases List.mem_append.mp hp with z | z
      · exact hkp p (List.mem_append_left _ z)
      · rcases List.mem_cons.mp z with z | z
        · rw [z]; exact hka.symm
        · exact hkp p (List.mem_append_right _ z)
    obtain ⟨fk, nk2⟩ := pin_fp I'' hk0 hka'
    have s1 := Heap.SameBut.update s''.heap kS (Obj.mapSeq (·.push v))
    obtain ⟨c2, hc2⟩ : ∃ c2, (s''.heap.update kS (Obj.mapSeq (·.push v))).get? kS = some (seqObj "list" (kA.push v) c2) := ⟨_, get?_update_seq nk2 (·.push v)⟩
    have ek : bs.take (j + 1) = bs.take j ++ [x] := by rw [List.take_add_one, hkj]; simp
    have ea : (kA.push v).toList = kA.toList ++ [v] := by simp
    refine wpAny_bind (listUpdate_at nk2 rfl ?_ (Nat.le_trans hz hZ) (Nat.le_trans (Nat.le_of_eq (Array.size_push ..)) (Nat.succ_le_succ (Nat.le_trans hz hZ))))
    have I3 := (unpin I'').turned (t' := s''.toks) (it := kS) (fun b o hb q => (s1.2 b hb).trans q) fk.1 fk.2.1 fk.2.2.2.1 fk.2.2.2.2.1 fk.2.2.2.2.2
    refine wpAny_pure ⟨rfl, H'', kA.push v, c2, fun c o q => h1 _ _ (hs _ _ q), repin I3 fk hc2 (fun v z => by cases z), ?_⟩
    rw [ea, ek]
    exact each_snoc (R := fun (u : Value) (x : β) => ∃ v, RelV v u ∧ Dp X.K H'' v (k x)) ⟨vv, rv, h2⟩ (hk.mono fun u d ⟨w, r1, r2⟩ => ⟨w, r1, dm _ _ _ _ h1 r2⟩)
  case done =>
    rintro s' ⟨H', kA, e, hs, I', hk⟩
    have e3 : bs.take (0 + vs.length) = bs := List.take_of_length_le (by omega)
    rw [e3] at hk
    have hka' : ∀ p ∈ X.pn ++ ((a, seqObj "list" #[] e1) :: pins), p.1 ≠ kS := fun p hp => by
      rcases List.mem_append.mp hp with z | z
      · exact hkp p (List.mem_append_left _ z)
      · rcases List.mem_cons.mp z with z | z
        · rw [z]; exact hka.symm
        · exact hkp p (List.mem_append_right _ z)
    obtain ⟨fk, nk'⟩ := pin_fp I' hk0 hka'
    obtain ⟨fa, na'⟩ := pin_fp (unpin I') ha0 hap
    have hk' : EachIs (fun v d => ∃ as, Reads s'.heap v d as) kA.toList (bs.map k) := by
      have : ∀ {us : List Value} {ys : List β}, EachIs (fun u x => ∃ v, RelV v u ∧ Dp X.K H' v (k x)) us ys → EachIs (fun v d => ∃ as, Reads s'.heap v d as) us (ys.map k) := by
        intro us ys h
        induction h with
        | nil => exact .nil
        | cons h1 h2 ih =>
          obtain ⟨v, r1, r2⟩ := h1
          exact .cons (Dp.reads I' _ _ _ r2 r1) ih
      exact this hk
    have hsz : kA.size = vs.length := by
      have h1 := hk.length
      rw [Array.length_toList] at h1
      omega
    try dsimp only
    refine wpAny_bind (listItems_at nk' rfl ?_)
    obtain ⟨G, g1, g2⟩ := restrict s'.heap fun c => decide (c ≠ kS)
    have kp : KeepsBut a G s'.heap := fun c o hc q => by
      by_cases hz : c = kS
      · rw [g2 c (by simp [hz])] at q; cases q
      · rw [g1 c (by simp [hz])] at q; exact q
    refine keyH_end (κ := dataKind s'.heap (bs.map k)) (h₁ := G) kp (g2 kS (by simp)) nk' na' hka (SortsAt.data hk' hal hsk hu) hsz hZ fun h3 tk3 c k3 n3 => ?_
    have keep3 : ∀ c o, c ∉ [a, kS] → s'.heap.get? c = some o → h3.get? c = some o := fun c o hc q => by
      have h1 : c ≠ a := fun z => hc (by simp [z])
      have h2 : c ≠ kS := fun z => hc (by simp [z])
      exact k3 c o h1 ((g1 c (by simp [h2])).trans q)
    have fk2 : FpOk X pins H' kS := ⟨fk.1, fk.2.1, fk.2.2.1, fk.2.2.2.1, fk.2.2.2.2.1, hkp⟩
    have I4 := (unpin (unpin I')).turnedL (t' := tk3) (ch := [a, kS]) keep3 fun c hc => by
      rcases List.mem_cons.mp hc with z | z
      · rw [z]; exact fa
      · rw [List.mem_singleton.mp z]; exact fk2
    exact h H' _ _ c hs I4 fa n3 ⟨s'.heap, kA.toList, hal, rfl, hk'⟩
theorem keyI_tree {n : Nat} (I : Inv X ((a, seqObj "list" vs.toArray n) :: pins) σ H s) (ha0 : X.s_0.heap.objs.size ≤ a) (hap : ∀ p ∈ X.pn ++ pins, p.1 ≠ a)
    (hlen : bs.length = vs.length) (hZ : vs.length ≤ sizeLine) (hal : AllAlike (bs.map k)) (hsk : Sortable (bs.map k)) (hu : ∀ d, d ∈ bs.map k → A.units + d.depth < cLine)
    (turn : ∀ (j : Nat) (u : Value) (x : β), vs[j]? = some u → bs[j]? = some x → ∀ (H' : Hp) (pins' : List (Addr × Obj)) (s' : Shared), (∀ c o, H c = some o → H' c = some o) → Inv X pins' σ H' s' → ∀ Qk : VK, (∀ v H'', (∀ c o, H' c = some o → H'' c = some o) → Dp X.K H'' v (k x) → Qk v H'') →
      wpAny (model X.prog X.w) A (call f [u]) (EP X pins' σ Qk) (fun _ _ => False) s')
    (dm : ∀ (H' H'' : Hp) (v : V) (d : PyData), (∀ c o, H' c = some o → H'' c = some o) → Dp X.K H' v d → Dp X.K H'' v d)
    (h : ∀ H' s' out c, (∀ c o, H c = some o → H' c = some o) → Inv X pins σ H' s' → FpOk X pins H' a → s'.heap.get? a = some (seqObj "list" (List.toArray out) c) → KeyedOut b (bs.map k) vs out → P (.done (.ret .none)) s') :
    wpAny (model X.prog X.w) A (ksk_tree a f b) P X.xe s := by
  obtain ⟨fa, ho⟩ := pin_fp I ha0 hap
  have ha : a < s.heap.objs.size := Heap.lt_size ho
  obtain ⟨e1, ho1⟩ : ∃ e1, (s.heap.update a (Obj.mapSeq fun _ => (#[] : Array Value))).get? a = some (seqObj "list" #[] e1) := ⟨_, get?_update_seq ho fun _ => #[]⟩
  have hkS : ((s.heap.update a (Obj.mapSeq fun _ => (#[] : Array Value))).push (seqObj "tuple" vs.toArray 0)).objs.size = s.heap.objs.size + 1 := by rw [size_push', Heap.size_update]
  unfold ksk_tree
  refine wpAny_bind (listItems_at ho rfl ?_)
  refine wpAny_bind (listUpdate_at ho rfl ?_ (by rw [List.size_toArray]; exact hZ) (Nat.zero_le _))
  refine wpAny_bind (seqEpoch_at ho1 rfl ?_)
  refine wpAny_bind (wpAny_newTuple ?_ (by show vs.length ≤ _; exact hZ))
  refine wpAny_bind (wpAny_newList ?_ (Nat.zero_le _))
  refine wpAny_holding ?_
  have sb := Heap.SameBut.update s.heap a (Obj.mapSeq fun _ => (#[] : Array Value))
  have I1 := repin ((unpin I).turned (t' := s.toks) (it := a) (fun c o hc q => (sb.2 c hc).trans q) fa.1 fa.2.1 fa.2.2.2.1 fa.2.2.2.2.1 fa.2.2.2.2.2) fa ho1 (fun v z => by cases z)
  have I2 := I1.kept (t' := s.toks) (h' := ((s.heap.update a (Obj.mapSeq fun _ => (#[] : Array Value))).push (seqObj "tuple" vs.toArray 0)).push (seqObj "list" #[] 0)) fun c o q => Heap.get?_push_of_some _ (Heap.get?_push_of_some _ q)
  have hsz : (s.heap.update a (Obj.mapSeq fun _ => (#[] : Array Value))).objs.size ≤ ((s.heap.update a (Obj.mapSeq fun _ => (#[] : Array Value))).push (seqObj "tuple" vs.toArray 0)).objs.size := by rw [hkS, Heap.size_update]; exact Nat.le_succ _
  have fk := I1.fpOk (H' := H) hsz (I1.hok.fresh hsz)
  have I3 := repin I2 fk (Heap.get?_push_size _ rfl) (fun v z => by cases z)
  exact keyI_rest (by rw [hkS]; exact Nat.ne_of_gt (Nat.lt_succ_of_lt ha)) I3 (Nat.le_trans I1.sz hsz) ha0 (fun p hp => fk.2.2.2.2.2 p (by
    rcases List.mem_append.mp hp with z | z
    · exact List.mem_append_left _ z
    · exact List.mem_append_right _ (List.mem_cons_of_mem _ z))) hap hlen hZ hal hsk hu turn dm h
end
end L2
namespace L2
open PySem PySem.Spec PyProof.Rows PySem.W PySem.Calls
end L2
namespace L2
open PySem PySem.Spec PyProof.Rows PySem.W PySem.Calls
noncomputable def valuesO (p d : Addr) : HO := .ext fun h => h.IsValuesView p d
theorem valuesO_ok {P : Program} {w : World} {H : Hp} {h : Heap} {p d : Addr} (e : h.get? p = some { cls := .type "dict_values", data := .fields #[.ref d] }) : ObjOk P w H h p (valuesO p d) :=
  ⟨⟨_, e, rfl, rfl⟩, ⟨_, e⟩, fun h1 h2 x k => let ⟨o, ho, r⟩ := x; ⟨o, k o ho, r⟩⟩
theorem sqL_mono {K : PySem.W.Frag} {H H' : Hp} {a : Addr} {xs : List V} (s : ∀ b o, H b = some o → H' b = some o) (h : SqL K H a xs) : SqL K H' a xs := by
  unfold SqL at h ⊢
  rcases h with h | h
  · exact .inl (h.imp (s _ _) fun ⟨o, e⟩ => ⟨o, s _ _ e⟩)
  · exact .inr h
theorem sqT_mono {K : PySem.W.Frag} {H H' : Hp} {a : Addr} {xs : List V} (s : ∀ b o, H b = some o → H' b = some o) (h : SqT K H a xs) : SqT K H' a xs := by
  unfold SqT at h ⊢
  rcases h with h | h
  · exact .inl (h.imp (s _ _) fun ⟨o, e⟩ => ⟨o, s _ _ e⟩)
  · exact .inr h
mutual
theorem dp_mono {K : PySem.W.Frag} {H H' : Hp} (s : ∀ b o, H b = some o → H' b = some o) : ∀ {v : V} {d : PyData}, Dp K H v d → Dp K H' v d
  | _, _, .int z => .int z
  | _, _, .str z => .str z
  | _, _, .bl z => .bl z
  | _, _, .non => .non
  | _, _, .lst h r => .lst (sqL_mono s h) (dp_monos s r)
  | _, _, .tup h r => .tup (sqT_mono s h) (dp_monos s r)
theorem dp_monos {K : PySem.W.Frag} {H H' : Hp} (s : ∀ b o, H b = some o → H' b = some o) : ∀ {vs : List V} {ds : List PyData}, DpAll K H vs ds → DpAll K H' vs ds
  | _, _, .nil => .nil
  | _, _, .cons h r => .cons (dp_mono s h) (dp_monos s r)
end
section
variable {X : Cx} {pins : List (Addr × Obj)} {σ : St} {H : Hp} {s : Shared}
theorem Inv.adopt {T : Addr} {ob : HO} (I : Inv X pins σ H s) (fp : FpOk X pins H T) (new : ObjOk X.prog X.w (upd H T ob) s.heap T ob) : Inv X pins σ (upd H T ob) s := by
  have hn : H T = none := fp.1
  refine I.step (g' := s.gens) (d' := s.drawn) (t' := s.toks) (h' := s.heap) (ch := [T]) (fun b hb => by rw [List.mem_singleton.mp hb]; exact ⟨fp.2.2.2.1, fp.2.1, fp.2.2.2.2.1, fp.2.2.2.2.2⟩) (fun b o _ _ _ e _ => e) (fun b o _ _ _ e _ => ⟨o.slots, e⟩)
    (fun b o hb e n => ?_) (fun b o _ e => ⟨o, e⟩) (fun b xs e => ?_) (fun b o u e => ?_) (fun b ps e => ⟨#[], ?_⟩) (fun m hm => hm) (fun b u e => ?_) I.bare
  · rw [upd_ne (fun z => hb (List.mem_singleton.mpr z))]; exact n
  · rw [upd_ne (ne_of_none e hn)]; exact e
  · rw [upd_ne (ne_of_none e hn)]; exact e
  · rw [upd_ne (ne_of_none e hn), e]; simp
  · by_cases hb : b = T
    · subst hb
      rw [upd_same] at e
      cases e
      exact new
    · rw [upd_ne hb] at e
      exact (I.hok b u e).stay (fun c v hc q => q) (fun c q => by rw [upd_ne (ne_of_none q hn)]; exact q) fun c xs q => by rw [upd_ne (ne_of_none q hn)]; exact q
end
section
variable {X : Cx}
theorem each_vals {β : Type} {Rb : V → β → Prop} {us : List Value} {ys : List β} (h : EachIs (fun u x => ∃ v, RelV v u ∧ Rb v x) us ys) : ∃ vs, Vals vs us ∧ Paired Rb vs ys := by
  induction h with
  | nil => exact ⟨[], .nil, .nil⟩
  | cons h1 h2 ih =>
    obtain ⟨v, r1, r2⟩ := h1
    obtain ⟨vs, i1, i2⟩ := ih
    exact ⟨v :: vs, .cons r1 i1, .cons r2 i2⟩
end
end L2
namespace Tw
open PySem PySem.Spec PyProof.Rows L2 TL
theorem paired_map2 {A B C : Type} {R : B → C → Prop} {f : A → B} {g : A → C} : ∀ {l : List A}, (∀ x ∈ l, R (f x) (g x)) → Paired R (l.map f) (l.map g)
  | [], _ => .nil
  | x :: l, h => .cons (h x (List.mem_cons_self ..)) (paired_map2 fun y hy => h y (List.mem_cons_of_mem _ hy))
theorem nodup_key {A B : Type} {f : A → B} : ∀ {l : List A}, (l.map f).Nodup → ∀ {a b : A}, a ∈ l → b ∈ l → f a = f b → a = b
  | [], _, _, _, h, _, _ => (List.not_mem_nil h).elim
  | y :: l, nd, a, b, ha, hb, e => by
    rw [List.map_cons, List.nodup_cons] at nd
    rcases List.mem_cons.mp ha with h1 | h1 <;> rcases List.mem_cons.mp hb with h2 | h2
    · rw [h1, h2]
    · exact absurd (List.mem_map.mpr ⟨b, h2, by rw [← e, h1]⟩) nd.1
    · exact absurd (List.mem_map.mpr ⟨a, h1, by rw [e, h2]⟩) nd.1
    · exact nodup_key nd.2 h1 h2 e
end Tw
namespace Tw
open PySem PySem.Spec PyProof.Rows L2 TL
theorem noMA {β : Type} {i : Rep β} {x : β} {b : Addr} : ¬ MA [.val i x] b := fun ⟨o, h, _⟩ => by
  rcases List.mem_cons.mp h with z | z
  · cases z
  · exact (List.not_mem_nil z).elim
theorem apart_v1 {β : Type} {i : Rep β} {x : β} : Apart [.val i x] := fun p q o1 o2 _ h => by
  cases p with
  | zero => cases h
  | succ p => cases h
end Tw
namespace L2
open PySem PySem.Spec PyProof.Rows PySem.W PySem.Calls
end L2
namespace Tw
open PySem PySem.Spec PyProof.Rows L2 TL
noncomputable abbrev T2x := Tx × Tx
noncomputable def ownK (q : Addr) (x : T2x) : Own where
  fp := [q]
  root := .ref q
  ok := fun K F H v => v = .ref q ∧ H q = some (.tup [.str (sx x.1), .str (sx x.2)])
  stay := fun s k ⟨e, h⟩ => ⟨e, k q (List.mem_singleton.mpr rfl) _ h⟩
  there := fun ⟨_, h⟩ b hb z => by rw [List.mem_singleton.mp hb, h] at z; cases z
  rt := fun h => h.1
noncomputable def NoTup (o : Own) : Prop := ∀ K F H v, o.ok K F H v → ∀ b ∈ o.fp, ∀ vs, H b ≠ some (.tup vs)
section
variable {K : PySem.W.Frag} {B : Bs} {F H F' H' : Hp} {σ : L2.St} {Γ : List Slot} {α : Type} {i : Rep α}
noncomputable abbrev bsK (B : Bs) (q : Addr) : Bs := ⟨B.F, B.H, fun b => B.M b ∨ b = q⟩
theorem Lc.key {k : Nat} {q : Addr} {x : T2x} (L : Lc K B F H σ Γ) (hq : H q = some (.tup [.str (sx x.1), .str (sx x.2)])) (fq : F q = none) (nt : ∀ (j : Nat) o, Γ[j]? = some (.own o) → NoTup o) : Lc K (bsK B q) F H (σ.set k (some (.ref q))) (Γ.set k (.own (ownK q x))) := by
  refine ⟨⟨L.ext.ff, L.ext.fh, fun b o nb h => L.ext.hh b o (fun z => nb (.inl z)) h, fun a na h1 h2 => L.ext.nwM a (fun z => na (.inl z)) h1 h2, fun a ha h => ?_⟩, by simp [L.len], fun j t h => ?_, L.ap.putO k fun j o' _ h b hb hb' => ?_⟩
  · rcases ha with ha | rfl
    · exact L.there a ha h
    · rw [hq]; exact fun z => nomatch z
  · rw [get_set_join]
    rcases get_set_slot h with ⟨e1, e2, rfl⟩ | ⟨e1, h⟩
    · rw [if_pos ⟨e1, by rw [L.len]; exact e2⟩]
      exact ⟨_, rfl, ⟨rfl, hq⟩, fun b hb => by rw [List.mem_singleton.mp hb]; exact ⟨fq, .inr (.inr rfl)⟩⟩
    · rw [if_neg fun z => e1 z.1]
      have := L.ok j t h
      cases t with
      | no => trivial
      | val i x => exact this
      | own o =>
        obtain ⟨v, e, ok, f⟩ := this
        exact ⟨v, e, ok, fun b hb => ⟨(f b hb).1, (f b hb).2.imp id .inl⟩⟩
  · rw [List.mem_singleton.mp hb] at hb'
    obtain ⟨v, _, ok, _⟩ := slot_own L h
    exact nt j o' h _ _ _ _ ok q hb' _ hq
end
end Tw
namespace Tw
open PySem PySem.Spec PyProof.Rows L2 TL
section
variable {X : Cx} {Γ : List Slot} {α β γ : Type} {i : Rep α} {j : Rep γ} {pos p p2 p3 : Pos} {e a b c tg : Expr} {es : List Expr} {E : SE} {rest body : List Stmt}
theorem etg_val {N : Bool → List Slot → Prop} (h : EG X Γ e (fun r Γ' => ∃ b, N b Γ' ∧ r = .val repBool b) (fun _ _ => False)) (he : autoParam (∀ whole, isTrue e X.env whole = (do let v ← whole; standAt e.pos; holding [v] (truthy v))) Tw.aIR1) : ETG X Γ e N := fun B F H σ Q L q =>
  WT.of (pt_val peW he) (h B F H σ _ L (fun r v F' H' Γ' hr s1 L1 ok => by
    obtain ⟨b, hN, rfl⟩ := hr
    exact ⟨b, ok, q b F' H' Γ' hN s1 L1⟩) fun x u d F1 H1 Γ2 z _ _ _ => z.elim)
end
end Tw
namespace Tw
open PySem PySem.Spec PyProof.Rows L2 TL
end Tw
namespace Tw
open PySem PySem.Spec PyProof.Rows L2 TL
end Tw
namespace Tw
open PySem PySem.Spec PyProof.Rows L2 TL
end Tw
namespace Tw
open PySem PySem.Spec PyProof.Rows L2 TL
structure DfD (K : PySem.W.Frag) (mg : Str → Option Value) (n : Str) (st : Stmt) (ps : List Str) : Prop where
  ex : ∃ f fd, FunD K n n (defArgs st) (defBody st) (defScope st) [V.non] [] f fd ∧ Binds K fd ps [] ∧ Binds K fd ps [Value.none] ∧ mg n = some (.ref f)
structure HasD (P : Program) (w : World) (K : PySem.W.Frag) (mg : Str → Option Value) (base : Heap) (k : Nat) (n : Str) (ps : List Str) (S : Spec) : Prop where
  ex : ∃ f fd, mg n = some (.ref f) ∧ PySem.W.keepIn K (.ref f) = true ∧ Binds K fd ps [] ∧ Binds K fd ps [Value.none] ∧ FnOk P w K mg base (L2.CX P w) k f fd ps (spOf K S)
section
variable {P : Program} {w : World} {K : PySem.W.Frag} {mg : Str → Option Value} {base : Heap}
theorem HasD.of {n : Str} {st : Stmt} {N ps : List Str} {k : Nat} {S : Spec} (D : DfD K mg n st ps) (sc : FnScope N ps (defScope st)) (len : ∀ A Q R, S A Q R → A.length = ps.length)
    (body : ∀ (f : Addr) (cdv : Value) (A : Around) (outer : List Env) (s : Shared) (H : Hp) (E : XK), Room k (A.deeper (envOfC n (defScope st) s.heap.objs.size f cdv)) → ∀ Γ Q R, S Γ Q R →
      ST (cxOf (L2.CX P w) P w K mg base N n (defScope st) f cdv A outer s H E) (defBody st) (Γ ++ List.replicate (N.length - ps.length) .no) (finX Q R)) :
    HasD P w K mg base (k + 1) n ps S := by
  obtain ⟨f, fd, F, hb, hb2, hm⟩ := D.ex
  refine ⟨f, fd, hm, F.kp, hb, hb2, F.ok sc (fun vs H Q E ⟨F0, A, s, r, ap, h⟩ => ?_) (fun cdv A outer s H vs Q E hr h => ?_)⟩
  · rw [r.len]; exact len _ _ _ h
  · obtain ⟨F0, A0, sm, r, ap, h⟩ := h
    refine ⟨_, psW, ?_⟩
    have hl := len _ _ _ h
    have L0 := lc_start (K := K) sm r ap (N.length - ps.length)
    have L1 : Lc K ⟨F0, H, MA A0⟩ F0 H (L2.start N vs) (A0 ++ List.replicate (N.length - ps.length) .no) := by
      unfold L2.start
      rw [show vs.length = ps.length from r.len.trans hl]
      exact L0
    refine body f cdv A outer s H E hr A0 _ _ h ⟨F0, H, MA A0⟩ F0 H _ _ L1 ⟨fun F' H' σ' Γ' _ hq L => ?_, fun r v F' H' hq ex ok => hq v F' H' ex ok, fun _ _ _ _ _ z => z.elim, fun _ _ _ _ _ z => z.elim, fun F1 H1 σ' Γ' x u d _ hq L ok => ?_⟩
    · exact hq .non F' H' L.ext rfl
    · exact XW.of (L2.takes_of rfl rfl rfl rfl) (hq u d F1 H1 L.ext (ok.imp fun b h => h.1))
end
theorem VsOk.snoc {K : PySem.W.Frag} {F : Hp} {α : Type} {i : Rep α} {x : α} {v : V} (r : i.rp K F v x) : ∀ {vs : List V} {A : List Slot}, VsOk K F vs A → VsOk K F (vs ++ [v]) (A ++ [.val i x])
  | [], [], _ => ⟨r, trivial⟩
  | u :: vs, .val j y :: A, h => ⟨h.1, VsOk.snoc r h.2⟩
  | [], _ :: _, h => h.elim
  | _ :: _, [], h => h.elim
  | _ :: _, .no :: _, h => h.elim
  | _ :: _, .own _ :: _, h => h.elim
end Tw
namespace L2
open PySem PySem.Spec PyProof.Rows PySem.Calls
end L2
namespace Tw
open PySem PySem.Spec PyProof.Rows L2 TL
noncomputable instance isdOpt {α : Type} [i : Rep α] [h : IsD α] : IsD (Option α) := ⟨fun x => match x with | none => .n | some y => h.d y, by
  intro K F v x
  cases x with
  | none => show v = .non ↔ _; rw [rpD]
  | some y => exact h.iff⟩
end Tw
namespace L2
open PySem PySem.Spec PyProof.Rows PySem.W PySem.Calls
end L2
namespace Tw
open PySem PySem.Spec PyProof.Rows L2 TL
noncomputable abbrev rb (B : Bs) (F' H' : Hp) : Bs := ⟨F', H', fun b => B.nw b ∧ F' b = none⟩
end Tw
namespace LcAir
open PySem PySem.Spec PyProof.Rows L2
end LcAir
namespace Tw
open PySem PySem.Spec PyProof.Rows L2 TL LcAir
end Tw
namespace Tw
open PySem PySem.Spec PyProof.Rows L2 TL NdefX LamX
noncomputable def CellX (a : Addr) (o : Obj) : HO := .ext fun h => h.get? a = some o
noncomputable abbrev Cells := List (Addr × Obj)
noncomputable def isC (cs : Cells) (b : Addr) : Prop := ∃ o, (b, o) ∈ cs
noncomputable def HasC (cs : Cells) (H : Hp) : Prop := ∀ p ∈ cs, H p.1 = some (CellX p.1 p.2)
theorem HasC.at {cs : Cells} {H : Hp} (h : HasC cs H) {b : Addr} (hb : isC cs b) : ∃ o, H b = some (CellX b o) := by
  obtain ⟨o, ho⟩ := hb
  exact ⟨o, h (b, o) ho⟩
end Tw
namespace Tw
open PySem PySem.Spec PyProof.Rows L2 TL NdefX LamX
section
variable {X : Cx} {x : Str} {i : Nat} {e : Expr} {es : List Expr} {t : TA} {p pos : Pos}
theorem pe_callS {f : Addr} (hg : Gl X x) (hm : X.mg x = some (.ref f)) (hk : PySem.W.keepIn X.K (.ref f) = true) (ha : PA X (e :: es) t) (hdb : (x == ("__debug__" : Str)) = false)
    (he : starEach (e :: es) X.env = (false, eval e X.env) :: starEach es X.env) (hpl : (backTo pos (starEach es X.env)).any (·.1) = false) :
    PE X (.Call (.Name x p) (e :: es) [] pos) (fun σ H Q => t σ H fun vs H1 => ∀ pins s us, Inv X pins σ H1 s → Vals vs us → wpAny (model X.prog X.w) X.A (call (.ref f) us) (EP X pins σ Q) X.xe s) :=
  ⟨fun pins s σ H Q I h => wpAny_Call_Name_kw (ld_glob I hg hm (PySem.W.callWith_K (h₀ := X.base) I.ok.mod.kin hk (thn (ha.run pos pins s σ H _ I h) fun us s1 z => by
    obtain ⟨vs, H1, I1, r, q⟩ := z
    exact ⟨I1.kIn, q pins s1 us I1 r⟩) he hpl) hdb)⟩
end
section
variable {X : Cx} {Γ : List Slot} {α β : Type} {i : Rep α} {j : Rep β} {pos p : Pos} {e a b : Expr} {es : List Expr} {E : SE} {rest : List Stmt}
noncomputable def tbl1 (pos : Pos) (c : Addr) : Array Value := #[rawInt pos.line, rawInt pos.col, .ref c]
structure Tb where
  at_ : Addr
  pos : Pos
  q : Str
noncomputable def TbOk (T : Tb) (F H : Hp) : Prop := F T.at_ = none ∧ (H T.at_ = some (.tbl #[]) ∨ ∃ c, H T.at_ = some (.tbl (tbl1 T.pos c)) ∧ F c = some (CodeO c T.q))
noncomputable def TbsF (T : List Tb) (F H : Hp) : Prop := ∀ p ∈ T, TbOk p F H
noncomputable def isT (T : List Tb) (b : Addr) : Prop := ∃ p ∈ T, p.at_ = b
structure TbsIn (T : List Tb) (B : Bs) (F H : Hp) (Γ : List Slot) : Prop where
  f : TbsF T F H
  nw : ∀ b, isT T b → B.nw b
  fr : ∀ b, isT T b → Free Γ b
theorem TbOk.ne {T : Tb} {F H : Hp} (h : TbOk T F H) : H T.at_ ≠ none := by
  rcases h.2 with z | ⟨c, z, _⟩
  · rw [z]; exact fun q => nomatch q
  · rw [z]; exact fun q => nomatch q
theorem TbsF.ne {T : List Tb} {F H : Hp} (h : TbsF T F H) {b : Addr} (hb : isT T b) : H b ≠ none := by
  obtain ⟨p, hp, rfl⟩ := hb
  exact (h p hp).ne
theorem TbsF.fn {T : List Tb} {F H : Hp} (h : TbsF T F H) {b : Addr} (hb : isT T b) : F b = none := by
  obtain ⟨p, hp, rfl⟩ := hb
  exact (h p hp).1
theorem TbsF.stepM {T : List Tb} {M : Addr → Prop} {F H F' H' : Hp} (h : TbsF T F H) (e : ExtM M F H F' H') (nm : ∀ b, isT T b → ¬ M b) : TbsF T F' H' := fun p hp => by
  have ib : isT T p.at_ := ⟨p, hp, rfl⟩
  refine ⟨e.nwM _ (nm _ ib) (h p hp).1 (h p hp).ne, ?_⟩
  rcases (h p hp).2 with z | ⟨c, z, q⟩
  · exact .inl (e.hh _ _ (nm _ ib) z)
  · exact .inr ⟨c, e.hh _ _ (nm _ ib) z, e.ff _ _ q⟩
theorem TbsIn.step {T : List Tb} {B : Bs} {F H F' H' : Hp} (h : TbsIn T B F H Γ) (e : Ext F H F' H') : TbsIn T B F' H' Γ := ⟨h.f.stepM e fun _ _ z => z, h.nw, h.fr⟩
theorem ExtM.of {M : Addr → Prop} {F H F' H' : Hp} (e : Ext F H F' H') : ExtM M F H F' H' := ⟨e.ff, e.fh, fun b o _ q => e.hs b o q, fun b _ h1 h2 => e.nw b h1 h2, fun b _ h => by
  cases q : H b with
  | none => exact absurd q h
  | some o => rw [e.hs b o q]; exact fun z => nomatch z⟩
structure EDT (T : List Tb) (X : Cx) (B : Bs) (F0 : Hp) (E : SE) (D : Ends) : Prop where
  nx : ∀ F H σ Γ, Same F0 F → E.nx Γ → Lc X.K B F H σ Γ → TbsIn T B F H Γ → D.nx σ H
  rt : ∀ r v F H, E.rt r → ExtM B.M B.F B.H F H → TbsF T F H → ROk X.K (fun b => B.nw b ∧ ¬ isT T b) F H v r → D.rt v H
theorem EDT.weak {T : List Tb} {B : Bs} {F0 F1 : Hp} {D : Ends} (h : EDT T X B F0 E D) (s : Same F0 F1) : EDT T X B F1 E D := ⟨fun F H σ Γ q => h.nx F H σ Γ (s.trans q), h.rt⟩
end
end Tw
namespace Tw
open PySem PySem.Spec PyProof.Rows L2 TL NdefX LamX
section
variable {X : Cx} {Γ : List Slot} {α β : Type} {i : Rep α} {j : Rep β} {pos p : Pos} {e a b : Expr} {es : List Expr} {E : SE} {rest : List Stmt} {T : List Tb}
theorem TbsF.ext {F H F' H' : Hp} (h : TbsF T F H) (e : ExtM (isT T) F H F' H') (h' : ∀ b, isT T b → F' b = none) (nt : ∀ p ∈ T, H' p.at_ = H p.at_ ∨ ∃ c, H' p.at_ = some (.tbl (tbl1 p.pos c)) ∧ F' c = some (CodeO c p.q)) : TbsF T F' H' := fun p hp => by
  refine ⟨h' _ ⟨p, hp, rfl⟩, ?_⟩
  rcases nt p hp with z | z
  · rcases (h p hp).2 with y | ⟨c, y, q⟩
    · exact .inl (z.trans y)
    · exact .inr ⟨c, z.trans y, e.ff _ _ q⟩
  · exact .inr z
end
end Tw
namespace Tw
open PySem PySem.Spec PyProof.Rows L2 TL NdefX LamX
end Tw
namespace Tw
open PySem PySem.Spec PyProof.Rows L2 TL NdefX LamX
end Tw
namespace Tw
open PySem PySem.Spec PyProof.Rows L2 TL NdefX LamX
end Tw
namespace L2
open PySem PySem.Spec PyProof.Rows PySem.W
section
variable {X : Cx} {pins : List (Addr × Obj)} {σ : St} {H : Hp} {s : Shared} {d : Addr} {o : Obj}
theorem Inv.frzTv {kvs : List (List Key × V)} (I : Inv X pins σ H s) (h : H d = some (.frz o (.dT kvs))) :
    (d == sysModules) = false ∧ s.heap.get? d = some o ∧ o.ExactDict ∧ ∃ (es : Array DictEntry) (ep : Nat), o.data = .dict es ep ∧ es.size = kvs.length ∧
      ∀ (i : Nat) (k : List Key) (v : V), kvs[i]? = some (k, v) → ∃ (en : DictEntry) (q : Addr), es[i]? = some en ∧ en.key = .ref q ∧ H q = some (.tup (k.map kV)) ∧ RelV v en.val := by
  obtain ⟨hd, z, hs, xs, pr, o', es, ep, ho, hx, hdt, he, _⟩ := I.hok d _ h
  rw [hd] at ho
  cases ho
  refine ⟨hs, hd, hx, es, ep, hdt, ?_, fun i k v e => ?_⟩
  · have l1 : es.size = xs.length := size_of_entries he
    have l2 : kvs.length = xs.length := Paired.length pr
    omega
  · obtain ⟨b, hb, e1, e2, e3⟩ := paired_get pr e
    have q := entry_at he i
    rw [hb] at q
    exact ⟨_, b.2.1, q, rfl, e2, e3⟩
end
noncomputable def KeyIn (o : Obj) (i : Nat) (q : Addr) : Prop := ∃ (es : Array DictEntry) (ep : Nat) (en : DictEntry), o.data = .dict es ep ∧ es[i]? = some en ∧ en.key = .ref q
noncomputable def ItiT (d : Addr) (o : Obj) (kvs : List (List Key × V)) : It :=
  ⟨fun i H => H d = some (.frz o (.dT kvs)) ∧ i < kvs.length, fun i H x H' => ∃ T k v q, kvs[i]? = some (k, v) ∧ x = .ref T ∧ H T = none ∧ KeyIn o i q ∧ H q = some (.tup (k.map kV)) ∧ H' = upd H T (.tup [.ref q, v]), fun i H => H d = some (.frz o (.dT kvs)) ∧ kvs.length ≤ i⟩
theorem turn_itemsT {P : Program} {w : World} {K : PySem.W.Frag} {d : Addr} {o : Obj} {es : Array DictEntry} {ep : Nat} {kvs : List (List Key × V)} {elts : List Expr} {kk : Nat} {tpos : Pos} (it : Addr) (hod : o.data = .dict es ep) :
    Turn P w K (.Tuple elts kk tpos) (ItiT d o kvs) [it] it (fun i h => ∃ ok ov, IsItemIter h it d i kvs.length ep ok ov) where
  mem := by simp
  obj := fun i h st b hb => by
    have e : b = it := by simpa using hb
    subst e
    obtain ⟨ok, ov, e⟩ := st
    exact ⟨_, e, fun v z => nomatch z⟩
  keep := fun i h h' st k => let ⟨ok, ov, e⟩ := st; ⟨ok, ov, k it (by simp) _ e⟩
  item := by
    intro X hP hw hK hc i pins s σ H E I hf st hg
    subst hP hw hK
    obtain ⟨hd, hi⟩ := hg
    obtain ⟨hs, hgd, hx, es', ep', hdt, hsz, ent⟩ := I.frzTv hd
    obtain ⟨rfl, rfl⟩ := dict_ep hod hdt
    obtain ⟨⟨k, v⟩, hkv⟩ : ∃ p, kvs[i]? = some p := ⟨kvs[i], List.getElem?_eq_getElem hi⟩
    obtain ⟨en, q, hen, hkey, hq, rv⟩ := ent i k v hkv
    obtain ⟨ok, ov, he⟩ := st
    rw [← hsz] at he
    have hlt : it < s.heap.objs.size := Heap.lt_size he
    have hie : i < es'.size := by omega
    have ee : es'[i] = en := by
      rw [Array.getElem?_eq_getElem hie] at hen
      exact Option.some.inj hen
    refine DT.nextI he ⟨o, hgd, hx, hdt⟩ hie fun h' ho hT hz hk => ?_
    rw [ee] at ho hT
    refine ⟨_, rfl, wpAny_letOwnedTupleGo_items (s := { s with heap := h' }) ho fun h'' he' sb => ?_⟩
    have hT2 : h''.get? s.heap.objs.size = some { cls := .type "tuple", data := .seq #[en.key, en.val] } := (sb.2 _ (Nat.ne_of_gt hlt)).trans hT
    have new : ObjOk X.prog X.w (upd H s.heap.objs.size (.tup [.ref q, v])) h'' s.heap.objs.size (.tup [.ref q, v]) :=
      ⟨by show 2 ≤ sizeLine; decide, [en.key, en.val], .cons hkey (.cons rv .nil), ⟨_, hT2, rfl, _, rfl⟩⟩
    have I1 : Inv X pins σ (upd H s.heap.objs.size (.tup [.ref q, v])) { s with heap := h'' } :=
      I.turnedNew (t' := s.toks) (ch := [it]) (fun b ob hb e => (sb.2 b (by simpa using hb)).trans (hk b ob (by simpa using hb) e)) hf (Nat.le_refl _) new
    refine ⟨.ref s.heap.objs.size, _, I1, rfl, ⟨_, k, v, q, hkv, rfl, I.hok.fresh (Nat.le_refl _), ⟨_, _, en, hod, hen, hkey⟩, hq, rfl⟩, ⟨en.key, en.val, ?_⟩, fun b hb => ?_⟩
    · rw [← hsz]; exact he'
    · have e : b = it := by simpa using hb
      rw [e, upd_ne (Nat.ne_of_lt hlt)]
      exact (hf it (by simp)).1
  done := by
    intro X hP hw hK hc i pins s σ H E I hf st hg
    subst hP hw hK
    obtain ⟨hd, hi⟩ := hg
    obtain ⟨f0, f1, f2, f3, f4, f5⟩ := hf it (by simp)
    obtain ⟨hs, hgd, hx, es', ep', hdt, hsz, ent⟩ := I.frzTv hd
    obtain ⟨rfl, rfl⟩ := dict_ep hod hdt
    obtain ⟨ok, ov, he⟩ := st
    rw [← hsz] at he
    exact DT.endI (I.ok.hd hc) he ⟨o, hgd, hx, hdt⟩ (by omega) fun h' eb => ⟨rfl, I.turned (t' := s.toks) (fun b ob hb e => eb b ob hb e) f0 f1 f3 f4 f5⟩
  self := fun A i s Q E st h => let ⟨_, _, e⟩ := st; PySem.W.kcp_self e h
noncomputable def iItemsT (td : TE) : TI := fun σ H R => td σ H fun x H1 => ∃ d o kvs, x = .ref d ∧ H1 d = some (.frz o (.dT kvs)) ∧ R (ItiT d o kvs) H1
theorem pi_itemsT {X : Cx} {e : Expr} {td : TE} {apos cpos : Pos} {elts : List Expr} {kk : Nat} {tpos : Pos} (he : PE X e td) (hbase : autoParam (attributeBase e "items" X.env (eval e X.env) = eval e X.env) Tw.aRfl) (hline : autoParam ((apos.endLine == cpos.line) = true) Tw.aRfl) :
    PI X (.Tuple elts kk tpos) (.Call (.Attribute e "items" apos) [] [] cpos) (iItemsT td) := by
  refine ⟨fun pins s σ H R I h => ?_⟩
  refine wpAny_Call_method (T := "dict") (id := "dict.items") hbase rfl hline F.plainAttrs_dict F.slot_dict_items F.type_dict_items (thn (he.run pins s σ H _ I h) fun u s1 ⟨x, H1, I1, rx, d, o, kvs, ex, hd, q⟩ => ?_)
  subst ex
  obtain rfl : u = Value.ref d := rx
  obtain ⟨hs, hgd, hx, es, ep, hdt, hsz, ent⟩ := I1.frzTv hd
  have hm : DT.Raw s1.heap d es ep := ⟨o, hgd, hx, hdt⟩
  refine ⟨hm.typeIs, fun b e => by cases e; exact ⟨o, hgd, hx.2.1⟩, ?_⟩
  have I2 : Inv X pins σ H1 { s1 with heap := s1.heap.push { cls := .type "dict_items", data := .fields #[.ref d] } } := I1.kept (t' := s1.toks) fun b ob q => Heap.get?_push_of_some _ q
  have fin : wpAny (model X.prog X.w) X.A (pyIter (.ref s1.heap.objs.size)) (PIE X pins σ (.Tuple elts kk tpos) R) X.xe { s1 with heap := s1.heap.push { cls := .type "dict_items", data := .fields #[.ref d] } } := by
    refine DT.iterI (d := d) ⟨_, Heap.get?_push_size _ rfl, rfl, rfl⟩ (hm.push _) (pi_one (tk := s1.toks) I2 _ (turn_itemsT _ hdt) ⟨.none, .none, ?_⟩ q)
    rw [← hsz]
    exact Heap.get?_push_size _ rfl
  show wpAny _ _ (callWith cpos (.builtin "dict.items") [.ref d] [] []) _ X.xe s1
  exact method_meetsIn F.slot_dict_items F.entry_dict_items rfl (PySem.evalArgs_none ⟨rfl, hm.typeIs, F.args_dict_items_1 _, _, DT.meetsItems (es := es) (ep := ep) hs, hm, fin⟩)
end L2
namespace Tw
open PySem PySem.Spec PyProof.Rows L2 TL
end Tw
namespace L2
open PySem PySem.Spec PyProof.Rows PySem.W
end L2
namespace Tw
open PySem PySem.Spec PyProof.Rows L2 TL
end Tw
namespace L2
open PySem PySem.Spec PyProof.Rows PySem.W PySem.Calls
section
variable {X : Cx}
noncomputable def DVals (H : Hp) (a : Addr) (vs : List V) : Prop := (∃ kvs : List (L2.Key × V), H a = some (.dK kvs) ∧ vs = kvs.map (·.2)) ∨ ∃ kvs : List (List L2.Key × V), H a = some (.dT kvs) ∧ vs = kvs.map (·.2)
noncomputable def rValues2 : V → List V → Hp → VK → Prop := fun x xs H Q => ∃ (a : Addr) (vs : List V), x = .ref a ∧ xs = [] ∧ DVals H a vs ∧ ∀ p, H p = none → Q (.ref p) (upd H p (valuesO p a))
theorem mt_values2 : MtR X "dict.values" rValues2 := by
  intro pins s σ H x xs v us Q I rx rxs h
  obtain ⟨a, vs, rfl, rfl, ha, q⟩ := h
  cases rx
  cases rxs
  have hf : H s.heap.objs.size = none := I.hok.fresh (Nat.le_refl _)
  have raw : (a == sysModules) = false ∧ ∃ o es ep, s.heap.get? a = some o ∧ o.ExactDict ∧ o.data = .dict es ep := by
    rcases ha with ⟨kvs, ha, _⟩ | ⟨kvs, ha, _⟩
    · obtain ⟨_, hd, ws, _, hd2⟩ := dk_of I.hok ha
      obtain ⟨es, ep, ⟨o, ho, hx, hdat⟩, _⟩ := hd2.raw
      exact ⟨hd, o, es, ep, ho, hx, hdat⟩
    · obtain ⟨z, hd, xs', rel, o, es, ep, ho, hx, hdat, _⟩ := dt_of I.hok ha
      exact ⟨hd, o, es, ep, ho, hx, hdat⟩
  obtain ⟨hd, o, es, ep, ho, hx, hdat⟩ := raw
  refine call_meetsIn F.slot_dict_values ⟨o, ho, hx.1⟩ F.entry_dict_values (F.args_dict_values_1 _) (meets_dict_values_raw a hd) ⟨⟨es, ep, o, ho, hx, hdat⟩, ?_⟩
  exact ⟨.ref s.heap.objs.size, upd H s.heap.objs.size (valuesO s.heap.objs.size a), I.laid (t' := s.toks) (fun b u e => Heap.get?_push_of_some _ e) (Nat.le_refl _) (valuesO_ok (Heap.get?_push_size _ rfl)), rfl, q _ hf⟩
noncomputable def rListVals : List V → Hp → VK → Prop := fun xs H Q => ∃ p a vs, xs = [.ref p] ∧ H p = some (valuesO p a) ∧ DVals H a vs ∧ ∀ q, H q = none → Q (.ref q) (upd H q (.lst vs))
theorem kt_vals {H : Hp} {kvs : List (List L2.Key × V)} {xs : List (List L2.Key × Addr × Value)} (h : KT H kvs xs) : Vals (kvs.map (·.2)) (xs.map fun x => x.2.2) := by
  induction h with
  | nil => exact .nil
  | cons h t ih => exact .cons h.2.2 ih
theorem call_list_vals (hc : X.calm = true) : CallR X (.type "list") rListVals := by
  intro pins s σ H xs us Q I r h
  obtain ⟨p, a, vs, e, hp, ha, q⟩ := h
  subst e
  obtain ⟨u, eu, rx⟩ := vals1 r
  subst eu
  obtain rfl : u = Value.ref p := rx
  have view : s.heap.IsValuesView p a := (show ObjOk X.prog X.w H s.heap p (valuesO p a) from I.hok p _ hp).1
  rcases ha with ⟨kvs, ha, rfl⟩ | ⟨kvs, ha, rfl⟩
  · obtain ⟨z, lo, ws, rk, hd⟩ := (show ObjOk X.prog X.w H s.heap a (.dK kvs) from I.hok a _ ha)
    obtain ⟨ep, hat⟩ := hd.dictAt
    have hl : kvs.length = ws.length := Paired.length rk
    refine PySem.W.kdl_call (PySem.W.kdl_values (knd := mixKind X.prog X.w) (kvs := ws) (ep := ep)) (I.ok.hd hc) ⟨view, hat⟩ (by rw [← hl]; exact z) fun h' tk acc' c' hkeep hS hacc => ?_
    refine ⟨.ref s.heap.objs.size, upd H s.heap.objs.size (.lst (kvs.map (·.2))), I.laid hkeep (Nat.le_refl _) (show ObjOk X.prog X.w _ _ _ (.lst (kvs.map (·.2))) from ⟨?_, acc'.toList, c', ?_, ?_⟩), rfl, q _ (I.hok.fresh (Nat.le_refl _))⟩
    · rw [List.length_map]; exact z
    · have el : acc'.toList.length = acc'.size := by simp
      refine vals_of_at (by rw [List.length_map, el, hacc.1, hl]) fun j x w h1 h2 => ?_
      obtain ⟨k, hky⟩ := hacc.2 j w (by rw [← Array.getElem?_toList]; exact h2)
      rw [List.getElem?_map] at h1
      obtain ⟨y, hy, rfl⟩ := Option.map_eq_some_iff.mp h1
      obtain ⟨b, hb, e1, e2⟩ := paired_get rk hy
      rw [hky] at hb
      cases hb
      exact e2
    · rw [Array.toArray_toList]; exact hS
  · obtain ⟨z, hs, xs', rel, o, es, ep, ho, hx, hdat, hes, his, hn⟩ := dt_of I.hok ha
    have l2 : es.size = xs'.length := size_of_entries hes
    have l1 : kvs.length = xs'.length := Paired.length rel
    refine PySem.W.kdl_call (PySem.KdlSrc.rawValues (r := p) (d := a) (es := es) (ep := ep)) (I.ok.hd hc) ⟨view, o, ho, hx, hdat⟩ (by omega) fun h' tk acc' c' hkeep hS hacc => ?_
    have ea : acc'.toList = xs'.map fun x => x.2.2 := by
      refine List.ext_getElem? fun j => ?_
      rw [List.getElem?_map]
      cases hj : acc'.toList[j]? with
      | none =>
        have h1 := List.getElem?_eq_none_iff.mp hj
        have hsz : acc'.toList.length = acc'.size := by simp
        rw [List.getElem?_eq_none (by rw [← l2, ← hacc.1, ← hsz]; exact h1)]; rfl
      | some v =>
        obtain ⟨hi, rfl⟩ := hacc.2 j v (by rw [← Array.getElem?_toList]; exact hj)
        have h1 := entry_at hes j
        rw [Array.getElem?_eq_getElem hi] at h1
        cases hk : xs'[j]? with
        | none => rw [hk] at h1; cases h1
        | some y =>
          rw [hk] at h1
          have h1 : es[j] = entryOfKey (tupleKind (mixKind X.prog X.w)) y := Option.some.inj h1
          rw [h1]; rfl
    refine ⟨.ref s.heap.objs.size, upd H s.heap.objs.size (.lst (kvs.map (·.2))), I.laid hkeep (Nat.le_refl _) (show ObjOk X.prog X.w _ _ _ (.lst (kvs.map (·.2))) from ⟨?_, acc'.toList, c', ?_, ?_⟩), rfl, q _ (I.hok.fresh (Nat.le_refl _))⟩
    · rw [List.length_map]; exact z
    · rw [ea]; exact kt_vals rel
    · rw [Array.toArray_toList]; exact hS
end
end L2
namespace Tw
open PySem PySem.Spec PyProof.Rows L2 TL
noncomputable abbrev Ent (α : Type) := Tx × Addr × List (Tx × α)
noncomputable abbrev eAd {α : Type} (p : Ent α) : Addr := p.2.1
noncomputable abbrev eKy {α : Type} (p : Ent α) : Tx := p.1
noncomputable abbrev eKv {α : Type} (p : Ent α) : Tx × V := (p.1, V.ref p.2.1)
noncomputable def ownDH {α : Type} (i : Rep α) (a : Addr) (l : List (Ent α)) (h : Option Addr) : Own where
  fp := a :: (l.map eAd).filter fun b => decide (h ≠ some b)
  root := .ref a
  ok := fun K F H v => v = .ref a ∧ (a :: l.map eAd).Nodup ∧ (l.map eKy).Nodup ∧ H a = some (dkTx.ho (l.map eKv)) ∧ ∀ p ∈ l, h ≠ some p.2.1 → ∃ kvs, H p.2.1 = some (dkTx.ho kvs) ∧ DRel i K F kvs p.2.2
  stay := fun s k ⟨e, n1, n2, hh, hl⟩ => ⟨e, n1, n2, k a (List.mem_cons_self ..) _ hh, fun p hp hne => by
    obtain ⟨kvs, h1, h2⟩ := hl p hp hne
    exact ⟨kvs, k p.2.1 (List.mem_cons_of_mem _ (List.mem_filter.mpr ⟨List.mem_map.mpr ⟨p, hp, rfl⟩, decide_eq_true hne⟩)) _ h1, Paired.mapP h2 fun _ _ q => ⟨q.1, i.mono s q.2⟩⟩⟩
  there := fun ⟨_, _, _, hh, hl⟩ b hb z => by
    rcases List.mem_cons.mp hb with rfl | hb
    · rw [hh] at z; cases z
    · obtain ⟨h1, h2⟩ := List.mem_filter.mp hb
      obtain ⟨p, hp, rfl⟩ := List.mem_map.mp h1
      obtain ⟨kvs, h3, _⟩ := hl p hp (of_decide_eq_true h2)
      rw [h3] at z; cases z
  rt := fun h => h.1
noncomputable abbrev ownDD {α : Type} (i : Rep α) (a : Addr) (l : List (Ent α)) : Own := ownDH i a l none
theorem dh_fp {α : Type} {i : Rep α} {a b : Addr} {l : List (Ent α)} {h : Option Addr} : b ∈ (ownDH i a l h).fp ↔ b = a ∨ ((∃ p ∈ l, p.2.1 = b) ∧ h ≠ some b) := by
  show b ∈ a :: (l.map eAd).filter (fun b => decide (h ≠ some b)) ↔ _
  rw [List.mem_cons, List.mem_filter, List.mem_map, decide_eq_true_eq]
theorem dd_mem {α : Type} {i : Rep α} {a : Addr} {l : List (Ent α)} {p : Ent α} (hp : p ∈ l) : p.2.1 ∈ (ownDD i a l).fp := dh_fp.mpr (.inr ⟨⟨p, hp, rfl⟩, (fun z => nomatch z)⟩)
theorem frozDD {α : Type} {i : Rep α} {a : Addr} {l : List (Ent α)} : Froz (ownDD i a l) (Dic.mk (l.map fun p => (p.1, Dic.mk p.2.2)) : Dic Tx (Dic Tx α)) := fun {K F H v} s ⟨e, _, _, h, hl⟩ f => by
  refine ⟨a, l.map eKv, e, (show frz F H (ownDD i a l).fp a = some (dkTx.ho (l.map eKv)) from (frz_in (List.mem_cons_self ..)).trans h), paired_map2 fun p hp => ⟨rfl, ?_⟩⟩
  obtain ⟨kvs, h1, h2⟩ := hl p hp (fun z => nomatch z)
  exact ⟨p.2.1, kvs, rfl, (frz_in (dd_mem hp)).trans h1, Paired.mapP h2 fun _ _ q => ⟨q.1, i.mono (frz_le f) q.2⟩⟩
noncomputable def stripE {α : Type} (l : List (Ent α)) : List (Tx × List (Tx × α)) := l.map fun p => (p.1, p.2.2)
theorem dd_look {α : Type} {l : List (Ent α)} {x : Tx} : (∃ p ∈ l, p.1 = x ∧ valV (l.map eKv) x = some (V.ref p.2.1) ∧ look (stripE l) x = some p.2.2) ∨ (valV (l.map eKv) x = none ∧ look (stripE l) x = none ∧ ∀ p ∈ l, p.1 ≠ x) := by
  induction l with
  | nil => exact .inr ⟨rfl, rfl, fun _ h => (List.not_mem_nil h).elim⟩
  | cons p l ih =>
    by_cases h : p.1 = x
    · exact .inl ⟨p, List.mem_cons_self .., h, valV_pos h, look_pos (p := (p.1, p.2.2)) h⟩
    · unfold stripE at ih ⊢
      rw [List.map_cons, valV_neg h, List.map_cons, look_neg (p := (p.1, p.2.2)) h]
      rcases ih with ⟨q, hq, h1⟩ | h1
      · exact .inl ⟨q, List.mem_cons_of_mem _ hq, h1⟩
      · exact .inr ⟨h1.1, h1.2.1, fun q hq => by
          rcases List.mem_cons.mp hq with rfl | hq
          · exact h
          · exact h1.2.2 q hq⟩
noncomputable def updE {α : Type} (l : List (Ent α)) (x : Tx) (inner : List (Tx × α)) : List (Ent α) := l.map fun p => if p.1 = x then (p.1, p.2.1, inner) else p
theorem updE_ad {α : Type} {l : List (Ent α)} {x : Tx} {inner : List (Tx × α)} : (updE l x inner).map eAd = l.map eAd ∧ (updE l x inner).map eKy = l.map eKy ∧ (updE l x inner).map eKv = l.map eKv := by
  unfold updE
  refine ⟨?_, ?_, ?_⟩ <;> rw [List.map_map] <;> refine List.map_congr_left fun p _ => ?_ <;> simp only [Function.comp] <;> split <;> rfl
theorem stripE_upd {α : Type} {l l' : List (Ent α)} {x : Tx} {b : Addr} {inner v : List (Tx × α)} (h : (l' = l ∧ look (stripE l) x = some inner) ∨ ((∀ p ∈ l, p.1 ≠ x) ∧ look (stripE l) x = none ∧ inner = [] ∧ l' = l ++ [(x, b, [])])) (hm : (x, b, inner) ∈ l') : stripE (updE l' x v) = put (stripE l) x v := by
  have base : ∀ m : List (Ent α), stripE (updE m x v) = (stripE m).map fun p => if p.1 = x then (p.1, v) else p := fun m => by
    unfold stripE updE
    rw [List.map_map, List.map_map]
    refine List.map_congr_left fun p _ => ?_
    simp only [Function.comp]
    split <;> rfl
  rcases h with ⟨rfl, _⟩ | ⟨hn, _, _, rfl⟩
  · have hany : ((stripE l').any fun p => decide (p.1 = x)) = true := List.any_eq_true.mpr ⟨(x, inner), List.mem_map.mpr ⟨_, hm, rfl⟩, decide_eq_true rfl⟩
    unfold put
    rw [if_pos hany]
    exact base _
  · have hany : ¬ ((stripE l).any fun p => decide (p.1 = x)) = true := by
      rw [List.any_eq_true]
      rintro ⟨q, hq, h⟩
      obtain ⟨p, hp, rfl⟩ := List.mem_map.mp hq
      exact hn p hp (of_decide_eq_true h)
    unfold put
    rw [if_neg hany, base]
    unfold stripE
    rw [List.map_append, List.map_append]
    congr 1
    · rw [List.map_congr_left (g := id), List.map_id]
      intro q hq
      obtain ⟨p, hp, rfl⟩ := List.mem_map.mp hq
      exact if_neg (hn p hp)
    · show [(if x = x then (x, v) else (x, []))] = [(x, v)]
      rw [if_pos rfl]
section
variable {X : Cx} {Γ : List Slot} {α β γ : Type} {i : Rep α} {j : Rep β} {lr : Rep γ} {pos p p2 p3 : Pos} {e a b c ek ex : Expr} {es : List Expr} {E : SE} {rest sts : List Stmt}
theorem st_setDD0 (i : Rep α) (k : Nat) {n : Str} {p3 spos : Pos} (hr : ∀ ad, ST X rest (Γ.set k (.own (ownDD i ad []))) E) (hN : X.N.Nodup) (hi : autoParam (X.N[k]? = some n) aRfl) (hx : autoParam (L2.Loc X.env.scope n) aLoc) (hs : autoParam (swapsWith (.Dict [] [] pos) (some (.Name n p3)) spos.line X.env = pure false) aRfl) (hf : autoParam (X.fn n = true ∨ X.env.scope.names.lookup n = some .local) Tw.aFn) :
    ST X (.Assign [.Name n p3] (.Dict [] [] pos) spos :: rest) Γ E :=
  st_setO k (P0 := fun o => ∃ ad, o = ownDD i ad []) (fun B F H σ Q L q => WE.of (dkTx.empty X pos) fun p hp => q _ (.ref p) F _ rfl (Ext.apart L.same hp) ⟨ownDD i p [], ⟨p, rfl⟩, fun b hb => by rw [List.mem_singleton.mp hb]; exact ⟨hp, L.same.free hp⟩, rfl, by simp, by simp, upd_same, fun _ z => (List.not_mem_nil z).elim⟩) (fun o ⟨ad, ho⟩ => by rw [ho]; exact hr ad) hN hi hx hs hf
theorem st_splitDD (m k : Nat) {n y : Str} {py : Pos} {ad : Addr} {l : List (Ent α)} {x : Tx} {ap cp lp : Pos} (hk : EV X Γ ek x) (hz : l.length < sizeLine)
    (hr : ∀ b inner l', (x, b, inner) ∈ l' → ((l' = l ∧ look (stripE l) x = some inner) ∨ ((∀ p ∈ l, p.1 ≠ x) ∧ look (stripE l) x = none ∧ inner = [] ∧ l' = l ++ [(x, b, [])])) → ST X rest ((Γ.set m (.own (ownDH i ad l' (some b)))).set k (.own (ownD Tx i b inner))) E)
    (hND : X.N.Nodup) (hmk : autoParam (m ≠ k) aDec) (hg : autoParam (Γ[m]? = some (.own (ownDD i ad l))) aRfl) (hN : autoParam (X.N[m]? = some n) aRfl) (hv : autoParam (Vis X.env.scope n) aVis) (hd : autoParam ((n == ("__debug__" : Str)) = false) aDec) (hcd : autoParam ((n == ("__classdict__" : Str)) = false) aDec)
    (hb1 : autoParam (attributeBase (.Name n p) "setdefault" X.env (eval (.Name n p) X.env) = eval (.Name n p) X.env) aRfl)
    (hf1 : autoParam (((backTo cp (starEach [ek, .Dict [] [] lp] X.env)).all (fun x => !x.1) && (backToKw cp (keywordEach [] X.env)).all (fun x => x.1.isSome) && decide (([ek, .Dict [] [] lp] : List Expr).length + ([] : List Keyword).length + (if ([] : List Keyword).isEmpty then 0 else 1) < 30)) = true) aRfl)
    (hl1 : autoParam ((ap.endLine == cp.line) = true) aRfl) (ht1 : autoParam (backTo cp (starEach [ek, .Dict [] [] lp] X.env) = [(false, eval ek X.env), (false, eval (.Dict [] [] lp) X.env)]) aRfl)
    (hi : autoParam (X.N[k]? = some y) aRfl) (hx : autoParam (L2.Loc X.env.scope y) aLoc) (hs : autoParam (swapsWith (.Call (.Attribute (.Name n p) "setdefault" ap) [ek, .Dict [] [] lp] [] cp) (some (.Name y py)) pos.line X.env = pure false) aRfl) (hf : autoParam (X.fn y = true ∨ X.env.scope.names.lookup y = some .local) Tw.aFn) :
    ST X (.Assign [.Name y py] (.Call (.Attribute (.Name n p) "setdefault" ap) [ek, .Dict [] [] lp] [] cp) pos :: rest) Γ E := fun B F H σ D L ed => by
  obtain ⟨v0, ea, ⟨rfl, _, _, ha, _⟩, _⟩ := slot_own L hg
  refine WP.cons (ps_set hND hi hx (pe_dsetd (pe_var hN hv hd hcd) peW (dkTx.empty X lp) ⟨hb1, hf1, hl1, ht1⟩) hs hf) ?_
  refine ⟨_, ea, ad, rfl, .inl ⟨_, .inl ha⟩, hk B F H σ _ L fun y0 F1 H1 e1 r1 => ?_⟩
  obtain rfl : y0 = V.str (sx x) := r1
  have L1 := L.step e1
  intro b hb
  obtain ⟨v1, ea1, ok1, fo1⟩ := slot_own L1 hg
  have hbn : ∀ c ∈ (ownDD i ad l).fp, c ≠ b := fun c hc z => (ownDD i ad l).there ok1 c hc (by rw [z]; exact hb)
  obtain ⟨rfl, nd1, nk1, ha1, hl1'⟩ := ok1
  have hbad : ad ≠ b := hbn ad (List.mem_cons_self ..)
  have L2' := L1.step (Ext.apart (o := dkTx.ho []) L1.same hb)
  obtain ⟨v2, ea2, ok2, fo2⟩ := slot_own L2' hg
  have ok2' := ok2
  obtain ⟨rfl, nd2, nk2, ha2, hl2'⟩ := ok2
  refine ⟨_, .inr (sx x), ha2, rfl, by rw [List.length_map, List.length_map]; exact hz, fun w hw => ?_, fun hn => ?_⟩
  · have hw : valV ((l.map eKv).map fun p => ((.inr (sx p.1) : L2.Key), p.2)) (.inr (sx x)) = some w := hw
    rw [valV_inj (e := fun x : Tx => (.inr (sx x) : L2.Key)) inr_sx x] at hw
    rcases dd_look (l := l) (x := x) with ⟨q, hq, hqk, hqv, hql⟩ | ⟨hno, _⟩
    · rw [hqv] at hw
      obtain rfl := Option.some.inj hw
      obtain ⟨kvs, hv1, pr1⟩ := hl2' q hq (fun z => nomatch z)
      obtain ⟨q1, q2, q3⟩ := q
      have hqk : q1 = x := hqk
      subst hqk
      have hqa : q2 ≠ ad := fun z => (List.nodup_cons.mp nd2).1 (List.mem_map.mpr ⟨_, hq, z⟩)
      have L3 : Lc X.K B F1 (upd H1 b (dkTx.ho [])) σ (Γ.set m (.own (ownDH i ad l (some q2)))) := L2'.updO hg ea2 (fun _ _ _ q => q) (fun c hc => (ownDD i ad l).there ok2' c hc) (fun c hc => by
        rcases dh_fp.mp hc with z | ⟨z, _⟩
        · exact .inl (dh_fp.mpr (.inl z))
        · exact .inl (dh_fp.mpr (.inr ⟨z, fun z => nomatch z⟩))) ⟨rfl, nd2, nk2, ha2, fun p hp _ => hl2' p hp (fun z => nomatch z)⟩
      have hq2 : q2 ∈ (ownDD i ad l).fp := dd_mem hq
      refine hr q2 q3 l hq (.inl ⟨rfl, hql⟩) B F1 _ _ D (L3.putOO k (fun c hc => by rw [List.mem_singleton.mp hc]; exact fo2 q2 hq2) (fun t o' ht ho' c hc hc2 => ?_) ⟨rfl, kvs, hv1, pr1⟩) (ed.weak e1.ff)
      have hc : c = q2 := List.mem_singleton.mp hc
      subst hc
      rcases get_set_slot ho' with ⟨e3, _, eo⟩ | ⟨e3, ho'⟩
      · cases eo
        rcases dh_fp.mp hc2 with z | ⟨_, z⟩
        · exact hqa z
        · exact z rfl
      · exact L2'.ap m t _ o' e3 hg ho' c hq2 hc2
    · rw [hno] at hw; cases hw
  · have hn : valV ((l.map eKv).map fun p => ((.inr (sx p.1) : L2.Key), p.2)) (.inr (sx x)) = none := hn
    rw [valV_inj (e := fun x : Tx => (.inr (sx x) : L2.Key)) inr_sx x] at hn
    rcases dd_look (l := l) (x := x) with ⟨q, hq, hqk, hqv, hql⟩ | ⟨_, hnl, hno⟩
    · rw [hqv] at hn; cases hn
    have eput : (HO.dK (putK ((l.map eKv).map fun p => ((.inr (sx p.1) : L2.Key), p.2)) (.inr (sx x)) (V.ref b))) = dkTx.ho ((l ++ [(x, b, ([] : List (Tx × α)))]).map eKv) := by
      have e0 := putK_inj (e := fun x : Tx => (.inr (sx x) : L2.Key)) inr_sx x (V.ref b) (l.map eKv)
      rw [e0]
      show HO.dK _ = HO.dK _
      congr 1
      rw [List.map_append]
      unfold putK
      rw [if_neg (by
        rw [List.any_map, List.any_eq_true]
        rintro ⟨p, hp, h⟩
        exact hno p hp (of_decide_eq_true h))]
      rfl
    rw [show (HO.dK (putK _ (.inr (sx x)) (V.ref b))) = _ from eput]
    have hlb : ∀ p ∈ l, p.2.1 ≠ b := fun p hp => hbn _ (dd_mem hp)
    have hla : ∀ p ∈ l, p.2.1 ≠ ad := fun p hp z => (List.nodup_cons.mp nd2).1 (List.mem_map.mpr ⟨p, hp, z⟩)
    have L3 : Lc X.K B F1 (upd (upd H1 b (dkTx.ho [])) ad (dkTx.ho ((l ++ [(x, b, ([] : List (Tx × α)))]).map eKv))) σ (Γ.set m (.own (ownDH i ad (l ++ [(x, b, [])]) (some b)))) := by
      refine L2'.updO hg ea2 (fun c w hc hw => ?_) (fun c hc => ?_) (fun c hc => ?_) ⟨rfl, ?_, ?_, upd_same, fun p hp hne => ?_⟩
      · rw [upd_ne fun z => hc (dh_fp.mpr (.inl z))]; exact hw
      · by_cases hca : c = ad
        · rw [hca, upd_same]; exact fun z => nomatch z
        · rw [upd_ne hca]
          exact (ownDD i ad l).there ok2' c hc
      · rcases dh_fp.mp hc with z | ⟨⟨p, hp, hpc⟩, z⟩
        · exact .inl (dh_fp.mpr (.inl z))
        · rcases List.mem_append.mp hp with hp | hp
          · exact .inl (dh_fp.mpr (.inr ⟨⟨p, hp, hpc⟩, fun z => nomatch z⟩))
          · rw [List.mem_singleton.mp hp] at hpc
            exact absurd (by rw [← hpc]) z
      · rw [List.map_append, ← List.cons_append, List.nodup_append]
        refine ⟨nd2, by simp, fun c hc c' hc' => ?_⟩
        have hc' : c' = b := List.mem_singleton.mp hc'
        rw [hc']
        rcases List.mem_cons.mp hc with rfl | hc
        · exact hbad
        · obtain ⟨p, hp, rfl⟩ := List.mem_map.mp hc
          exact hlb p hp
      · rw [List.map_append, List.nodup_append]
        refine ⟨nk2, by simp, fun c hc c' hc' => ?_⟩
        have hc' : c' = x := List.mem_singleton.mp hc'
        rw [hc']
        obtain ⟨p, hp, rfl⟩ := List.mem_map.mp hc
        exact hno p hp
      · rcases List.mem_append.mp hp with hp | hp
        · obtain ⟨kvs, h1, h2⟩ := hl2' p hp (fun z => nomatch z)
          exact ⟨kvs, by rw [upd_ne (hla p hp)]; exact h1, h2⟩
        · rw [List.mem_singleton.mp hp] at hne
          exact absurd rfl hne
    refine hr b [] _ (List.mem_append_right _ (List.mem_singleton.mpr rfl)) (.inr ⟨hno, hnl, rfl, rfl⟩) B F1 _ _ D (L3.putOO k (fun c hc => by rw [List.mem_singleton.mp hc]; exact ⟨L1.same.free hb, L1.nw hb⟩) (fun t o' ht ho' c hc hc2 => ?_) ⟨rfl, [], ?_, .nil⟩) (ed.weak e1.ff)
    · have hc : c = b := List.mem_singleton.mp hc
      subst hc
      rcases get_set_slot ho' with ⟨e3, _, eo⟩ | ⟨e3, ho'⟩
      · cases eo
        rcases dh_fp.mp hc2 with z | ⟨_, z⟩
        · exact hbad z.symm
        · exact z rfl
      · exact L1.ne_own hb ho' hc2
    · rw [upd_ne hbad.symm, upd_same]
theorem st_fuse (m k : Nat) {ad b : Addr} {l : List (Ent α)} {x : Tx} {inner0 inner : List (Tx × α)} (hm : (x, b, inner0) ∈ l) (hr : ST X sts ((Γ.set k .no).set m (.own (ownDD i ad (updE l x inner)))) E) (hmk : autoParam (m ≠ k) aDec) (hg : autoParam (Γ[m]? = some (.own (ownDH i ad l (some b)))) aRfl) (hg2 : autoParam (Γ[k]? = some (.own (ownD Tx i b inner))) aRfl) : ST X sts Γ E := fun B F H σ D L ed => by
  have L1 : Lc X.K B F H σ (Γ.set k .no) := L.le ⟨by simp, fun t s hs => by
    rcases get_set_slot hs with ⟨_, _, rfl⟩ | ⟨_, hs⟩
    · exact .inl rfl
    · exact .inr hs⟩
  obtain ⟨v, ev, ⟨rfl, nd, nk, ha, hl⟩, fo⟩ := slot_own L hg
  obtain ⟨v2, ev2, ⟨rfl, kvs2, hb, pr2⟩, fo2⟩ := slot_own L hg2
  obtain ⟨u1, u2, u3⟩ := updE_ad (l := l) (x := x) (inner := inner)
  have hfp : ∀ c ∈ (ownDD i ad (updE l x inner)).fp, c ∈ (ownDH i ad l (some b)).fp ∨ c = b := fun c hc => by
    rcases dh_fp.mp hc with z | ⟨⟨p, hp, hpc⟩, _⟩
    · exact .inl (dh_fp.mpr (.inl z))
    · by_cases hcb : c = b
      · exact .inr hcb
      · have : c ∈ (updE l x inner).map eAd := List.mem_map.mpr ⟨p, hp, hpc⟩
        rw [u1] at this
        obtain ⟨p', hp', e'⟩ := List.mem_map.mp this
        exact .inl (dh_fp.mpr (.inr ⟨⟨p', hp', e'⟩, fun z => hcb (Option.some.inj z).symm⟩))
  refine hr B F H σ D ⟨L1.ext, by rw [List.length_set]; exact L1.len, fun q t hq => ?_, L1.ap.putO m fun q o2 hq h c hc hc2 => ?_⟩ ed
  · rcases get_set_slot hq with ⟨e1, e2, rfl⟩ | ⟨e1, hq'⟩
    · subst e1
      rw [ev]
      refine ⟨_, rfl, ⟨rfl, by rw [u1]; exact nd, by rw [u2]; exact nk, by rw [u3]; exact ha, fun p hp _ => ?_⟩, fun c hc => ?_⟩
      · obtain ⟨p0, hp0, rfl⟩ := List.mem_map.mp hp
        by_cases hpx : p0.1 = x
        · have e0 : p0 = (x, b, inner0) := nodup_key nk hp0 hm hpx
          subst e0
          rw [if_pos rfl]
          exact ⟨kvs2, hb, pr2⟩
        · rw [if_neg hpx]
          exact hl p0 hp0 fun z => hpx (by
            have hz : p0.2.1 = b := (Option.some.inj z).symm
            have := nodup_key (f := eAd) (List.nodup_cons.mp nd).2 hp0 hm hz
            rw [this])
      · rcases hfp c hc with z | rfl
        · exact fo c z
        · exact fo2 c (List.mem_singleton.mpr rfl)
    · exact L1.ok q t hq'
  · rcases get_set_slot h with ⟨_, _, eo⟩ | ⟨e3, h'⟩
    · cases eo
    · rcases hfp c hc with z | rfl
      · exact L.ap m q _ o2 hq hg h' c z hc2
      · exact L.ap k q _ o2 e3 hg2 h' c (List.mem_singleton.mpr rfl) hc2
end
end Tw
namespace L2
open PySem PySem.Spec PyProof.Rows PySem.W PySem.Calls
noncomputable def tDisp1T (ta tb : TE) : TE := fun σ H Q => ∀ p, H p = none → ta σ (upd H p (.dT [])) fun x H1 => tb σ H1 fun y H2 => H2 p = some (.dT []) ∧ ∃ (k : List L2.Key) (c : Addr), x = .ref c ∧ H2 c = some (.tup (k.map kV)) ∧ Q (.ref p) (upd H2 p (.dT [(k, y)]))
theorem pe_disp1T {X : Cx} {pos : Pos} {a b : Expr} {ta tb : TE} (hu : X.A.units + 1 < cLine) (ha : PE X a ta) (hb : PE X b tb) : PE X (.Dict [some a] [b] pos) (tDisp1T ta tb) := by
  refine ⟨fun pins s σ H Q I q => ?_⟩
  have hn := I.hok.fresh (Nat.le_refl s.heap.objs.size)
  have I1 := I.laid (a := s.heap.objs.size) (o := .dT []) (h' := s.heap.push { cls := .type "dict", data := .dict #[] }) (t' := s.toks) (fun _ _ q => Heap.get?_push_of_some _ q) (Nat.le_refl _) (dt_empty s.heap I.big)
  have hl := pairTrees_length [some a] [b] X.env pos (by rfl) (by rfl)
  rw [arm_eval_Dict, zip_pairTrees [some a] [b] X.env pos (by rfl) (by rfl), dictDisplay_pairs _ (fun z => by rw [z] at hl; cases hl) (by rw [hl]; exact Nat.le_of_ble_eq_true rfl)]
  refine wpAny_bind (wpAny_standAt (wpAny_bind (wpAny_subDictH (knd := tupleKind (mixKind X.prog X.w)) (Q := fun d s' => wpAny (model X.prog X.w) X.A (pure (Value.ref d)) _ _ s') (show X.A.units < cLine by omega) (by rw [hl]; exact Nat.le_of_ble_eq_true rfl) ?_)))
  refine pairTrees_cons_walk (thn (ha.run pins _ σ _ _ I1 (q _ hn)) fun u s1 ⟨x, H1, I1', rx, q1⟩ => thn (hb.run pins s1 σ H1 _ I1' q1) fun v s2 ⟨y, H2, I2, ry, e, k, c, ex, ec, q2⟩ => pairTrees_nil_walk ?_)
  subst ex
  obtain rfl : u = Value.ref c := rx
  obtain ⟨z, hd, xs, rel, dd⟩ := dt_of I2.hok e
  cases rel
  refine ⟨[(k, c, v)], ⟨rfl, rfl, key_of I2.hok ec, trivial⟩, dd, fun h' tk dd' hs => wpAny_pure ⟨.ref s.heap.objs.size, _, ?_, rfl, q2⟩⟩
  obtain ⟨o, es, ep, hq, h2, h3, h4, _, h5⟩ := dd'
  refine d_write I2 (by rw [e]; exact True.intro) hs ⟨o, hq⟩ ⟨by show 1 ≤ sizeLine; decide, hd, [(k, c, v)], .cons ⟨rfl, ?_, ry⟩ .nil, o, es, ep, hq, h2, h3, h4, h5⟩
  rw [upd_ne (ne_of ec e (fun z => nomatch z))]
  exact ec
end L2
namespace Tw
open PySem PySem.Spec PyProof.Rows L2 TL
theorem drel_vs {K : PySem.W.Frag} {F : Hp} {κ μ α : Type} [ik : Rep κ] [DecidableEq κ] {i : Rep α} {e : κ → μ} {kvs : List (κ × V)} {l : List (κ × α)} (h : DRel i K F kvs l) : Paired (fun u x => i.rp K F u x) ((kvs.map fun p => (e p.1, p.2)).map (·.2)) (l.map (·.2)) := by
  induction h with
  | nil => exact .nil
  | cons r _ ih => exact .cons r.2 ih
noncomputable def DDat {α : Type} (i : Rep α) (K : PySem.W.Frag) (F H : Hp) (d : Addr) (l : List (Ent α)) : Prop := H d = some (dkTx.ho (l.map eKv)) ∧ ∀ p ∈ l, ∃ kvs, H p.2.1 = some (dkTx.ho kvs) ∧ DRel i K F kvs p.2.2
theorem dd_data {α : Type} {i : Rep α} {K : PySem.W.Frag} {F H : Hp} {v : V} {D : Dic Tx (Dic Tx α)} (s : Same F H) (h : repDic.rp K F v D) : ∃ d l, v = .ref d ∧ DDat i K F H d l ∧ stripE l = D.l.map fun p => (p.1, p.2.l) := by
  obtain ⟨a, kvs, rfl, ha, pr⟩ := h
  have : ∃ l : List (Ent α), l.map eKv = kvs ∧ (∀ p ∈ l, ∃ ks, H p.2.1 = some (dkTx.ho ks) ∧ DRel i K F ks p.2.2) ∧ stripE l = D.l.map fun p => (p.1, p.2.l) := by
    obtain ⟨D⟩ := D
    replace pr : DRel repDic K F kvs D := pr
    show ∃ l : List (Ent α), l.map eKv = kvs ∧ _ ∧ l.map (fun p => (p.1, p.2.2)) = D.map fun p => (p.1, p.2.l)
    clear ha
    induction pr with
    | nil => exact ⟨[], rfl, fun _ z => (List.not_mem_nil z).elim, rfl⟩
    | @cons p q ps qs r t ih =>
      obtain ⟨l, h1, h2, h3⟩ := ih
      obtain ⟨r1, b, ks, r2, r3, r4⟩ := r
      obtain ⟨p1, p2⟩ := p
      obtain ⟨q1, ⟨q2⟩⟩ := q
      have r1 : p1 = q1 := r1
      have r2 : p2 = V.ref b := r2
      subst r1 r2
      refine ⟨(p1, b, q2) :: l, by rw [List.map_cons, h1], fun p hp => ?_, by rw [List.map_cons, List.map_cons, h3]⟩
      rcases List.mem_cons.mp hp with rfl | hp
      · exact ⟨ks, s _ _ r3, r4⟩
      · exact h2 p hp
  obtain ⟨l, h1, h2, h3⟩ := this
  exact ⟨a, l, rfl, ⟨by rw [h1]; exact s _ _ ha, h2⟩, h3⟩
section
variable {X : Cx} {Γ : List Slot} {α β γ : Type} {i : Rep α} {j : Rep β} {lr : Rep γ} {pos p p0 p2 p3 : Pos} {e a b c ek ex : Expr} {es : List Expr} {E : SE} {rest sts : List Stmt}
theorem en_ddvals (k : Nat) {n : Str} {l : List (Tx × List (Tx × α))} {x : Tx} {kk : Nat} {ap cp lp ap2 cp2 : Pos} (hr : Room kk X.A) (hk : EV X Γ ek x) (hslot : ∀ {B F H σ}, Lc X.K B F H σ Γ → ∃ d l', σ[k]? = some (some (.ref d)) ∧ DDat i X.K F H d l' ∧ stripE l' = l)
    (hml : X.mg "list" = none) (hc : autoParam (X.calm = true) aRfl) (hgl : autoParam (Gl X "list") aRfl) (hN : autoParam (X.N[k]? = some n) aRfl) (hv : autoParam (Vis X.env.scope n) aVis) (hd : autoParam ((n == ("__debug__" : Str)) = false) aDec) (hcd : autoParam ((n == ("__classdict__" : Str)) = false) aDec)
    (hb1 : autoParam (attributeBase (.Name n p) "get" X.env (eval (.Name n p) X.env) = eval (.Name n p) X.env) aRfl)
    (hf1 : autoParam (((backTo cp (starEach [ek, .Dict [] [] lp] X.env)).all (fun x => !x.1) && (backToKw cp (keywordEach [] X.env)).all (fun x => x.1.isSome) && decide (([ek, .Dict [] [] lp] : List Expr).length + ([] : List Keyword).length + (if ([] : List Keyword).isEmpty then 0 else 1) < 30)) = true) aRfl)
    (hl1 : autoParam ((ap.endLine == cp.line) = true) aRfl) (ht1 : autoParam (backTo cp (starEach [ek, .Dict [] [] lp] X.env) = [(false, eval ek X.env), (false, eval (.Dict [] [] lp) X.env)]) aRfl)
    (hb2 : autoParam (attributeBase (.Call (.Attribute (.Name n p) "get" ap) [ek, .Dict [] [] lp] [] cp) "values" X.env (eval (.Call (.Attribute (.Name n p) "get" ap) [ek, .Dict [] [] lp] [] cp) X.env) = eval (.Call (.Attribute (.Name n p) "get" ap) [ek, .Dict [] [] lp] [] cp) X.env) aRfl) (hl2 : autoParam ((ap2.endLine == cp2.line) = true) aRfl)
    (hs : autoParam (starEach [.Call (.Attribute (.Call (.Attribute (.Name n p) "get" ap) [ek, .Dict [] [] lp] [] cp) "values" ap2) [] [] cp2] X.env = (false, eval (.Call (.Attribute (.Call (.Attribute (.Name n p) "get" ap) [ek, .Dict [] [] lp] [] cp) "values" ap2) [] [] cp2) X.env) :: starEach [] X.env) aStar) (hpl : autoParam ((backTo pos (starEach [] X.env)).any (·.1) = false) aPl) :
    EN X Γ (.Call (.Name "list" p0) [.Call (.Attribute (.Call (.Attribute (.Name n p) "get" ap) [ek, .Dict [] [] lp] [] cp) "values" ap2) [] [] cp2] [] pos) (((look l x).getD []).map (·.2)) := fun B F H σ Q L q => by
  obtain ⟨d, l0, ev, ⟨hd0, _⟩, _⟩ := hslot L
  refine WE.of (pe_callTy (call_list_vals hc) hgl hml (by decide +kernel) (pa_cons (pe_bm0 PySem.F.plainAttrs_dict PySem.F.slot_dict_values PySem.F.type_dict_values mt_values2 (pe_dget2 (by have := hr.units; omega) (pe_var hN hv hd hcd) peW (dkTx.empty X lp) ⟨hb1, hf1, hl1, ht1⟩) hb2 hl2) pa_nil hs) (by decide) (by decide) hs hpl) ?_
  refine ⟨_, ev, d, rfl, dkTx.isD hd0, hk B F H σ _ L fun y F1 H1 e1 r1 => ?_⟩
  have L1 := L.step e1
  intro p' hp'
  have x1 := Ext.apart (o := dkTx.ho []) L1.same hp'
  have L2 := L1.step x1
  obtain ⟨d', l', ev', ⟨hd', hl'⟩, el⟩ := hslot L2
  obtain rfl : d = d' := by rw [ev] at ev'; exact V.ref.inj (Option.some.inj (Option.some.inj ev'))
  have fin : ∀ (c : Addr) (kvs : List (Tx × V)) (ys : List (Tx × α)), upd H1 p' (dkTx.ho []) c = some (dkTx.ho kvs) → DRel i X.K F1 kvs ys → ys = (look l x).getD [] →
      tyV X.K "dict" (V.ref c) (upd H1 p' (dkTx.ho [])) ∧ rValues2 (V.ref c) [] (upd H1 p' (dkTx.ho [])) fun v H' => rListVals [v] H' Q := fun c kvs ys hc' pr ey => by
    have hK : upd H1 p' (dkTx.ho []) c = some (.dK (kvs.map fun p => ((.inr (sx p.1) : _root_.L2.Key), p.2))) := hc'
    refine ⟨.inr (.inr (.inl ⟨rfl, .inl ⟨_, hK⟩⟩)), c, _, rfl, rfl, .inl ⟨_, hK, rfl⟩, fun q' hq' => ?_⟩
    have x2 := Ext.apart (o := valuesO q' c) L2.same hq'
    have L3 := L2.step x2
    refine ⟨q', c, _, rfl, upd_same, .inl ⟨_, x2.hs _ _ hK, rfl⟩, fun r hr' => ?_⟩
    have x3 := Ext.apart (o := .lst ((kvs.map fun p => ((.inr (sx p.1) : _root_.L2.Key), p.2)).map (·.2))) L3.same hr'
    have e4 := e1.trans (x1.trans x2)
    exact q r _ F1 _ (e4.trans x3) (e4.hs.free hr') (L3.same.free hr') upd_same (by rw [← ey]; exact drel_vs (e := fun x : Tx => (.inr (sx x) : _root_.L2.Key)) pr)
  refine ⟨valV (l'.map eKv) x, dkTx.get L2.same hd' r1, ?_⟩
  rcases dd_look (l := l') (x := x) with ⟨q0, hq0, _, h2, h3⟩ | ⟨h2, h3⟩
  · rw [h2]
    obtain ⟨kvs, h4, h5⟩ := hl' q0 hq0
    exact fin q0.2.1 kvs q0.2.2 h4 h5 (by rw [← el, h3]; rfl)
  · rw [h2]
    exact fin p' [] [] upd_same .nil (by rw [← el, h3.1]; rfl)
end
end Tw
namespace Tw
open PySem PySem.Spec PyProof.Rows L2 TL
structure Ptr where
  b : Addr
noncomputable instance repPtr : Rep Ptr := ⟨fun _ _ v x => v = .ref x.b, fun _ h => h⟩
noncomputable instance : Flat Ptr := ⟨fun h => h⟩
noncomputable def ownW (o1 : Own) (os : List Own) : Own where
  fp := o1.fp ++ os.flatMap Own.fp
  root := o1.root
  ok := fun K F H v => o1.ok K F H v ∧ (∀ o ∈ os, o.ok K F H o.root) ∧ (∀ o ∈ os, ∀ c ∈ o1.fp, c ∉ o.fp) ∧ ∀ (p q : Nat) a b, p ≠ q → os[p]? = some a → os[q]? = some b → ∀ c ∈ a.fp, c ∉ b.fp
  stay := fun s k ⟨h1, h2, h3⟩ => ⟨o1.stay s (fun b hb u q => k b (List.mem_append_left _ hb) u q) h1, fun o ho => o.stay s (fun b hb u q => k b (List.mem_append_right _ (List.mem_flatMap.mpr ⟨o, ho, hb⟩)) u q) (h2 o ho), h3⟩
  there := fun ⟨h1, h2, _⟩ b hb => by
    rcases List.mem_append.mp hb with hb | hb
    · exact o1.there h1 b hb
    · obtain ⟨o, ho, hb⟩ := List.mem_flatMap.mp hb
      exact o.there (h2 o ho) b hb
  rt := fun h => o1.rt h.1
theorem w_fp {o1 : Own} {os : List Own} {c : Addr} : c ∈ (ownW o1 os).fp ↔ c ∈ o1.fp ∨ ∃ o ∈ os, c ∈ o.fp := by
  show c ∈ o1.fp ++ os.flatMap Own.fp ↔ _
  rw [List.mem_append, List.mem_flatMap]
theorem frozW {α : Type} {i : Rep α} {o1 : Own} {os : List Own} {x : α} (h : Froz o1 x) : Froz (ownW o1 os) x := fun {K F H v} s ok f => by
  refine i.mono (fun b u e => ?_) (h s ok.1 fun b hb => f b (w_fp.mpr (.inl hb)))
  by_cases hb : b ∈ o1.fp
  · rw [frz_in hb] at e
    rw [frz_in (w_fp.mpr (.inl hb))]; exact e
  · rw [frz_out hb] at e
    rw [frz_out fun z => by rw [f b z] at e; cases e]; exact e
section
variable {X : Cx} {Γ : List Slot} {α β γ : Type} {i : Rep α} {j : Rep β} {lr : Rep γ} {pos p p0 p2 p3 : Pos} {e a b c ek ex : Expr} {es : List Expr} {E : SE} {rest sts : List Stmt}
theorem Lc.backW {K : PySem.W.Frag} {B : Bs} {F H F' H' : Hp} {σ : L2.St} {M : Addr → Prop} (L : Lc K B F H σ Γ) (e : ExtM M F H F' H') {k t : Nat} {o1 o o' : Own} {os : List Own} (hg : Γ[k]? = some (.own (ownW o1 os))) (ht : os[t]? = some o) (hM : ∀ b, M b → b ∈ o.fp) (ok' : o'.ok K F' H' o'.root) (f' : ∀ b ∈ o'.fp, (H b = none ∨ M b) ∧ F' b = none) :
    Lc K B F' H' σ (Γ.set k (.own (ownW o1 (os.set t o')))) := by
  have hom : o ∈ os := List.mem_of_getElem? ht
  have hMW : ∀ b, M b → b ∈ (ownW o1 os).fp := fun b m => w_fp.mpr (.inr ⟨o, hom, hM b m⟩)
  have L1 := L.after e hg hMW
  obtain ⟨v, ev, ok, f⟩ := slot_own L hg
  obtain ⟨k1, k2, k3, k4⟩ := id ok
  have tl : t < os.length := (List.getElem?_eq_some_iff.mp ht).1
  have other : ∀ (q : Nat) a, t ≠ q → os[q]? = some a → ∀ b ∈ a.fp, ¬ M b := fun q a hq ha b hb m => k4 t q o a hq ht ha b (hM b m) hb
  have first : ∀ b ∈ o1.fp, ¬ M b := fun b hb m => k3 o hom b hb (hM b m)
  -- what o' owns is apart from whatever owned nothing of o
  have apart : ∀ b ∈ o'.fp, ∀ a : Own, a.ok K F H a.root → (∀ c ∈ a.fp, ¬ M c) → b ∉ a.fp := fun b hb a ha hn hba => by
    rcases (f' b hb).1 with z | m
    · exact a.there ha b hba z
    · exact hn b hba m
  have get : ∀ (q : Nat) a, (os.set t o')[q]? = some a → (q = t ∧ a = o') ∨ (t ≠ q ∧ os[q]? = some a) := fun q a h => by
    by_cases hq : t = q
    · subst hq
      rw [List.getElem?_set_self tl] at h
      exact .inl ⟨rfl, (Option.some.inj h).symm⟩
    · rw [List.getElem?_set_ne hq] at h
      exact .inr ⟨hq, h⟩
  have o1ok : o1.ok K F H o1.root := by rw [← o1.rt k1]; exact k1
  have new : (ownW o1 (os.set t o')).ok K F' H' v := by
    refine ⟨o1.stay e.ff (fun b hb u q => e.hh b u (first b hb) q) k1, fun a ha => ?_, fun a ha c hc => ?_, fun q r a b hqr ha hb c hc => ?_⟩
    · obtain ⟨q, ha⟩ := List.mem_iff_getElem?.mp ha
      rcases get q a ha with ⟨_, rfl⟩ | ⟨hq, ha⟩
      · exact ok'
      · exact a.stay e.ff (fun b hb u z => e.hh b u (other q a hq ha b hb) z) (k2 a (List.mem_of_getElem? ha))
    · obtain ⟨q, ha⟩ := List.mem_iff_getElem?.mp ha
      rcases get q a ha with ⟨_, rfl⟩ | ⟨hq, ha⟩
      · exact fun z => apart c z o1 o1ok first hc
      · exact k3 a (List.mem_of_getElem? ha) c hc
    · rcases get q a ha with ⟨eq, ea⟩ | ⟨hq, ha2⟩
      · rcases get r b hb with ⟨er, eb⟩ | ⟨hr, hb2⟩
        · exact absurd (eq.trans er.symm) hqr
        · rw [ea] at hc
          exact apart c hc b (k2 b (List.mem_of_getElem? hb2)) (other r b hr hb2)
      · rcases get r b hb with ⟨er, eb⟩ | ⟨hr, hb2⟩
        · rw [eb]
          exact fun z => apart c z a (k2 a (List.mem_of_getElem? ha2)) (other q a hq ha2) hc
        · exact k4 q r a b hqr ha2 hb2 c hc
  have fW : ∀ c ∈ (ownW o1 (os.set t o')).fp, (F' c = none ∧ B.nw c) ∧ ((∃ b ∈ o'.fp, b = c) ∨ c ∈ (ownW o1 os).fp) := fun c hc => by
    have old : c ∈ (ownW o1 os).fp → ¬ M c → F' c = none ∧ B.nw c := fun hc hm => ⟨e.nwM c hm (f c hc).1 ((ownW o1 os).there ok c hc), (f c hc).2⟩
    rcases w_fp.mp hc with hc1 | ⟨a, ha, hc1⟩
    · have : c ∈ (ownW o1 os).fp := w_fp.mpr (.inl hc1)
      exact ⟨old this (first c hc1), .inr this⟩
    · obtain ⟨q, hqa⟩ := List.mem_iff_getElem?.mp ha
      rcases get q a hqa with ⟨_, ea⟩ | ⟨hq, ha⟩
      · rw [ea] at hc1
        refine ⟨⟨(f' c hc1).2, ?_⟩, .inl ⟨c, hc1, rfl⟩⟩
        rcases (f' c hc1).1 with z | m
        · exact L.nw z
        · exact (f c (hMW c m)).2
      · have : c ∈ (ownW o1 os).fp := w_fp.mpr (.inr ⟨a, List.mem_of_getElem? ha, hc1⟩)
        exact ⟨old this (other q a hq ha c hc1), .inr this⟩
  refine ⟨L1.ext, by simp [L.len], fun q s hq => ?_, L.ap.putO k fun q o2 hq h c hc => ?_⟩
  · rcases get_set_slot hq with ⟨e1, e2, rfl⟩ | ⟨e1, hq'⟩
    · subst e1
      rw [ev]
      exact ⟨v, rfl, new, fun c hc => (fW c hc).1⟩
    · exact L1.ok q s (by rw [List.getElem?_set_ne e1]; exact hq')
  · rcases (fW c hc).2 with ⟨b, hb, rfl⟩ | hc
    · rcases (f' b hb).1 with z | m
      · exact L.ne_own z h
      · exact L.ap k q _ o2 hq hg h b (hMW b m)
    · exact L.ap k q _ o2 hq hg h c hc
theorem eg_callPart (k t : Nat) {n : Str} {kk : Nat} {ps : List Str} {S : Spec} {o1 o : Own} {os : List Own} {d : Addr} {A : List Slot} {P : Ret → List Slot → Prop} {G : α → Own → Prop} (GH : Has X.prog X.w X.K X.mg X.base kk n ps S) (hr : Room kk X.A) (he0 : EV X Γ e (Ptr.mk d)) (ha : EA X Γ es A) (hA : noOwn A = true) (hg : Γ[k]? = some (.own (ownW o1 os))) (ht : os[t]? = some o) (hd0 : o.root = .ref d)
    (hP : ∀ x o', G x o' → P (.val i x) (Γ.set k (.own (ownW o1 (os.set t o'))))) (hS : ∀ P' R', (∀ x o', G x o' → P' (.chg i x [o'])) → S (.own o :: A) P' R') (hgl : autoParam (Gl X n) aRfl) (hd : autoParam ((n == ("__debug__" : Str)) = false) aDec)
    (he : autoParam (starEach (e :: es) X.env = (false, eval e X.env) :: starEach es X.env) aStar) (hpl : autoParam ((backTo pos (starEach es X.env)).any (·.1) = false) aPl) : EG X Γ (.Call (.Name n p) (e :: es) [] pos) P (fun _ _ => False) := fun B F H σ Q L q z => by
  obtain ⟨f, fd, hm, hk, hb, GF⟩ := GH.ex
  have hom : o ∈ os := List.mem_of_getElem? ht
  refine WE.of (_root_.L2.pe_callS (E := fun σ cls d H => XW X cls d σ H) GF hr hgl hm hk hb (fun σ => passAt takesW σ) (pa_cons peW paW he) hd he hpl) (he0 B F H σ _ L fun v F1 H1 e1 r1 => ha B F1 H1 σ _ (L.step e1) fun vs F2 H2 e2 r2 => ?_)
  obtain rfl : v = V.ref d := r1
  have e12 := e1.trans e2
  have L2 := L.step e12
  obtain ⟨v0, _, ok, fo⟩ := slot_own L2 hg
  have rA : VsOkO X.K F2 H2 (.ref d :: vs) (.own o :: A) := ⟨by rw [← hd0]; exact ok.2.1 o hom, fun c hc => (fo c (w_fp.mpr (.inr ⟨o, hom, hc⟩))).1, r2.toO⟩
  refine ⟨F2, _, L2.same, rA, apart_one hA, hS _ _ fun x o' hx v F3 H3 e3 ok3 => ?_⟩
  obtain ⟨rx, fo3, _⟩ := ok3
  obtain ⟨ok', f'⟩ := fo3 o' (List.mem_singleton.mpr rfl)
  exact q (.val i x) v F3 H3 _ (hP x o' hx) (e12.ff.trans e3.ff) (L2.backW e3 hg ht (fun b m => ma_one hA m) ok' fun b hb => f' b hb) rx
end
end Tw
namespace Tw
open PySem PySem.Spec PyProof.Rows L2 TL
section
variable {X : Cx} {Γ : List Slot} {α β κ γ : Type} {i : Rep α} [ik : Rep κ] [DecidableEq κ] [dk : DKey κ] {j : Rep β} {lr : Rep γ} {pos p p2 p3 pos2 : Pos} {e a b c : Expr} {es : List Expr} {E : SE} {rest : List Stmt} {n f1 f2 : Str} {C ad dx da : Addr} {x : α} {l : List (κ × β)}
theorem eg_meth2 (k1 k2 : Nat) {m cn : Str} {kk : Nat} {ps : List Str} {S : Spec} {o2 : Own} {A : List Slot} {P : Ret → List Slot → Prop} {G : γ → Own → Own → Prop} {apos : Pos} {pl : Sem Bool} (hne : k1 ≠ k2) (hc : OC X.K X.mg cn) (GH : HasM X.prog X.w X.K X.mg X.base kk cn m ps S) (hr : Room kk X.A)
    (hC : PySem.W.nsIn X.K mainGlobals cn = some (some (.ref C))) (hm1 : m ≠ f1) (hm2 : m ≠ f2) (ha : EAb X Γ (e :: es) (.own o2 :: A)) (hA : noOwn A = true) (hg : Γ[k1]? = some (.own (ownC i j f1 f2 C ad dx da x l))) (hg2 : Γ[k2]? = some (.own o2))
    (hG : ∀ x' o' o2', G x' o' o2' → o'.root = V.ref ad ∧ o2'.root = o2.root) (hP : ∀ x' o' o2', G x' o' o2' → P (.val lr x') ((Γ.set k1 (.own o')).set k2 (.own o2'))) (hS : ∀ P' R', (∀ x' o' o2', G x' o' o2' → P' (.chg lr x' [o', o2'])) → S (.own (ownC i j f1 f2 C ad dx da x l) :: .own o2 :: A) P' R')
    (hN : autoParam (X.N[k1]? = some n) aRfl) (hv : autoParam (Vis X.env.scope n) aVis) (hd : autoParam ((n == ("__debug__" : Str)) = false) aDec) (hcd : autoParam ((n == ("__classdict__" : Str)) = false) aDec)
    (hst : autoParam (starEach (e :: es) X.env = (false, eval e X.env) :: starEach es X.env) aStar) (hpl : autoParam ((backTo pos (starEach es X.env)).any (·.1) = false) aPl)
    (ht : autoParam (eval (.Call (.Attribute (.Name n p) m apos) (e :: es) [] pos) X.env = (do
      let ov ← eval (.Name n p) X.env
      standAt apos.atName
      let (f, first) ← holding [ov] (getMethod ov m pl)
      callWith pos f first (backTo pos (starEach (e :: es) X.env)) (backToKw pos (keywordEach [] X.env)))) aRfl) : EG X Γ (.Call (.Attribute (.Name n p) m apos) (e :: es) [] pos) P (fun _ _ => False) := fun B F H σ Q L q z => by
  obtain ⟨C', kC, gC⟩ := hc
  obtain rfl := ns_one kC.ns hC
  obtain ⟨f, fd, hM, hb, GF⟩ := GH.ex C kC.ns
  obtain ⟨v, ev, ok, fo⟩ := slot_own L hg
  obtain ⟨rfl, ne, h1, ⟨v1, h2, r1⟩, _⟩ := id ok
  refine ⟨fun pins s I => ?_⟩
  refine PySem.W.methodCall_KW (pl := pl) (thn ((pe_var (pos := p) hN hv hd hcd).run pins s σ H (fun v' H1 => v' = .ref ad ∧ H1 = H) I ⟨.ref ad, ev, rfl, rfl⟩) fun u s1 ⟨v', H1, I1, rv1, e1, e2⟩ => ?_) ht
  subst e1 e2
  obtain rfl : u = Value.ref ad := rv1
  refine getmeth_ok I1 h2 kC.cl hM (by rw [lookup_ne hm1, lookup_ne hm2]; rfl) ?_
  refine PySem.W.callWith_K (first := [.ref ad]) (h₀ := X.base) I.ok.mod.kin hM.kp (thn ((ha B F _ σ (fun vs H2 => ∃ F2, Ext F H1 F2 H2 ∧ VsOkO X.K F2 H2 vs (.own o2 :: A)) L (fun vs F2 H2 e2 r2 => ⟨F2, e2, r2⟩)).go pos pins s1 I1) fun us s2 ⟨vs, H2, I2, rvs, F2, e2, r2⟩ => ⟨I2.kIn, ?_⟩) hst hpl
  have rA : VsOkO X.K F2 H2 (.ref ad :: vs) (.own (ownC i j f1 f2 C ad dx da x l) :: .own o2 :: A) := ⟨(ownC i j f1 f2 C ad dx da x l).stay e2.ff (fun b _ u z => e2.hs _ _ z) ok, fun b hb => e2.nw b (fo b hb).1 ((ownC i j f1 f2 C ad dx da x l).there ok b hb), r2⟩
  refine run_fnS (E := fun σ cls d H => XW X cls d σ H) (us := .ref ad :: us) (vs := .ref ad :: vs) GF hr hb (passAt takesW σ) I2 (.cons rfl rvs) ?_
  have L1 := L.step e2
  have ap : Apart (.own (ownC i j f1 f2 C ad dx da x l) :: .own o2 :: A) := Apart.tail (apart_one hA) fun o eo b hb m => by
    cases eo
    exact L.ap k1 k2 _ o2 hne hg hg2 b hb (ma_one hA m)
  refine ⟨F2, _, L1.same, rA, ap, hS _ _ fun x' o' o2' hx v F3 H3 e3 ok3 => ?_⟩
  obtain ⟨rx, fo3, pw⟩ := ok3
  obtain ⟨ok1, g1⟩ := fo3 o' (List.mem_cons_self ..)
  obtain ⟨ok2, g2⟩ := fo3 o2' (List.mem_cons_of_mem _ (List.mem_singleton.mpr rfl))
  obtain ⟨h1', h2'⟩ := hG x' o' o2' hx
  exact q (.val lr x') v F3 H3 _ (hP x' o' o2' hx) (e2.ff.trans e3.ff) (L1.back2 e3 hne hg hg2 (fun b m => ma_two hA m) ok1 (fun b hb => g1 b hb) h1' ok2 (fun b hb => g2 b hb) h2' (List.pairwise_pair.mp pw)) rx
theorem eg_methNew (k : Nat) {m cn : Str} {kk : Nat} {ps : List Str} {S : Spec} {A : List Slot} {P : Ret → List Slot → Prop} {G : Addr → Own → Own → Prop} {apos : Pos} {pl : Sem Bool} (hc : OC X.K X.mg cn) (GH : HasM X.prog X.w X.K X.mg X.base kk cn m ps S) (hr : Room kk X.A)
    (hC : PySem.W.nsIn X.K mainGlobals cn = some (some (.ref C))) (hm1 : m ≠ f1) (hm2 : m ≠ f2) (ha : EA X Γ (e :: es) A) (hA : noOwn A = true) (hg : Γ[k]? = some (.own (ownC i j f1 f2 C ad dx da x l)))
    (hG : ∀ d o' oN, G d o' oN → o'.root = V.ref ad ∧ oN.root = V.ref d) (hP : ∀ d o' oN, G d o' oN → P (.own fun o => o = oN) (Γ.set k (.own o'))) (hS : ∀ P' R', (∀ d o' oN, G d o' oN → P' (.chg repPtr (Ptr.mk d) [o', oN])) → S (.own (ownC i j f1 f2 C ad dx da x l) :: A) P' R')
    (hN : autoParam (X.N[k]? = some n) aRfl) (hv : autoParam (Vis X.env.scope n) aVis) (hd : autoParam ((n == ("__debug__" : Str)) = false) aDec) (hcd : autoParam ((n == ("__classdict__" : Str)) = false) aDec)
    (hst : autoParam (starEach (e :: es) X.env = (false, eval e X.env) :: starEach es X.env) aStar) (hpl : autoParam ((backTo pos (starEach es X.env)).any (·.1) = false) aPl)
    (ht : autoParam (eval (.Call (.Attribute (.Name n p) m apos) (e :: es) [] pos) X.env = (do
      let ov ← eval (.Name n p) X.env
      standAt apos.atName
      let (f, first) ← holding [ov] (getMethod ov m pl)
      callWith pos f first (backTo pos (starEach (e :: es) X.env)) (backToKw pos (keywordEach [] X.env)))) aRfl) : EG X Γ (.Call (.Attribute (.Name n p) m apos) (e :: es) [] pos) P (fun _ _ => False) := fun B F H σ Q L q z => by
  obtain ⟨C', kC, gC⟩ := hc
  obtain rfl := ns_one kC.ns hC
  obtain ⟨f, fd, hM, hb, GF⟩ := GH.ex C kC.ns
  obtain ⟨v, ev, ok, fo⟩ := slot_own L hg
  obtain ⟨rfl, ne, h1, ⟨v1, h2, r1⟩, _⟩ := id ok
  refine ⟨fun pins s I => ?_⟩
  refine PySem.W.methodCall_KW (pl := pl) (thn ((pe_var (pos := p) hN hv hd hcd).run pins s σ H (fun v' H1 => v' = .ref ad ∧ H1 = H) I ⟨.ref ad, ev, rfl, rfl⟩) fun u s1 ⟨v', H1, I1, rv1, e1, e2⟩ => ?_) ht
  subst e1 e2
  obtain rfl : u = Value.ref ad := rv1
  refine getmeth_ok I1 h2 kC.cl hM (by rw [lookup_ne hm1, lookup_ne hm2]; rfl) ?_
  refine PySem.W.callWith_K (first := [.ref ad]) (h₀ := X.base) I.ok.mod.kin hM.kp (thn ((ha B F _ σ (fun vs H2 => ∃ F2, Ext F H1 F2 H2 ∧ VsOk X.K F2 vs A) L (fun vs F2 H2 e2 r2 => ⟨F2, e2, r2⟩)).go pos pins s1 I1) fun us s2 ⟨vs, H2, I2, rvs, F2, e2, r2⟩ => ⟨I2.kIn, ?_⟩) hst hpl
  have rA : VsOkO X.K F2 H2 (.ref ad :: vs) (.own (ownC i j f1 f2 C ad dx da x l) :: A) := ⟨(ownC i j f1 f2 C ad dx da x l).stay e2.ff (fun b _ u z => e2.hs _ _ z) ok, fun b hb => e2.nw b (fo b hb).1 ((ownC i j f1 f2 C ad dx da x l).there ok b hb), r2.toO⟩
  refine run_fnS (E := fun σ cls d H => XW X cls d σ H) (us := .ref ad :: us) (vs := .ref ad :: vs) GF hr hb (passAt takesW σ) I2 (.cons rfl rvs) ?_
  have L1 := L.step e2
  refine ⟨F2, _, L1.same, rA, apart_one hA, hS _ _ fun d o' oN hx v F3 H3 e3 ok3 => ?_⟩
  obtain ⟨rx, fo3, pw⟩ := ok3
  obtain rfl : v = V.ref d := rx
  obtain ⟨ok1, g1⟩ := fo3 o' (List.mem_cons_self ..)
  obtain ⟨ok2, g2⟩ := fo3 oN (List.mem_cons_of_mem _ (List.mem_singleton.mpr rfl))
  have pw := List.pairwise_pair.mp pw
  obtain ⟨h1', h2'⟩ := hG d o' oN hx
  have hma : ∀ b, MA (.own (ownC i j f1 f2 C ad dx da x l) :: A) b → b ∈ (ownC i j f1 f2 C ad dx da x l).fp := fun b m => ma_one hA m
  obtain ⟨_, _, _, fo1⟩ := slot_own L1 hg
  refine q (.own fun o => o = oN) (.ref d) F3 H3 _ (hP d o' oN hx) (e2.ff.trans e3.ff) (L1.back e3 hg hma ok1 (fun b hb => g1 b hb) h1') ⟨oN, rfl, fun b hb => ⟨⟨(g2 b hb).1.elim (fun w => L1.nw w) fun m => (fo1 b (hma b m)).2, fun t o3 ht3 => ?_⟩, (g2 b hb).2⟩, by rw [← h2']; exact ok2⟩
  rcases get_set_slot ht3 with ⟨_, _, w⟩ | ⟨nt, ht3'⟩
  · cases w
    exact fun z => pw b z hb
  · exact (g2 b hb).1.elim (fun w => L1.ne_own w ht3') fun m => L1.ap k t _ o3 nt hg ht3' b (hma b m)
end
section
variable {X : Cx} {Γ : List Slot} {α β γ : Type} {i : Rep α} {j : Rep β} {lr : Rep γ} {pos p p0 p2 p3 : Pos} {e a b c ek ex : Expr} {es : List Expr} {E : SE} {rest sts : List Stmt}
noncomputable def Owned (Γ : List Slot) (b : Addr) : Prop := ∃ (t : Nat) (o : Own), Γ[t]? = some (.own o) ∧ b ∈ o.fp
theorem not_owned {b : Addr} (h : Free Γ b) : ¬ Owned Γ b := fun ⟨t, o, h1, h2⟩ => h t o h1 h2
theorem eg_keep {P : Ret → List Slot → Prop} (he : EG X Γ e P (fun _ _ => False)) {B : Bs} {F H : Hp} {σ : L2.St} {Q : VK} (L : Lc X.K B F H σ Γ)
    (q : ∀ r v F' H' Γ', P r Γ' → Same F F' → Lc X.K B F' H' σ Γ' → ROk X.K (fun c => (B.nw c ∧ Free Γ' c) ∧ (H c = none ∨ Owned Γ c)) F' H' v r → (∀ b o, Free Γ b → H b = some o → H' b = some o ∧ (F b = none → F' b = none) ∧ Free Γ' b) → Q v H') : WE X e σ H Q := by
  have mnw : ∀ b, Owned Γ b → B.nw b := fun b ⟨t, o, h1, h2⟩ => by
    obtain ⟨_, _, _, f⟩ := slot_own L h1
    exact (f b h2).2
  have L1 : Lc X.K ⟨F, H, Owned Γ⟩ F H σ Γ := ⟨⟨Same.refl F, L.same, fun _ _ _ h => h, fun _ _ h _ => h, fun _ _ h => h⟩, L.len, fun t s hs => by
    have := L.ok t s hs
    cases s with
    | no => trivial
    | val i x => exact this
    | own o =>
      obtain ⟨v, e, ok, f⟩ := this
      exact ⟨v, e, ok, fun b hb => ⟨(f b hb).1, .inr ⟨t, o, hs, hb⟩⟩⟩, L.ap⟩
  refine he _ F H σ Q L1 (fun r v F' H' Γ' hP s1 L2 r2 => q r v F' H' Γ' hP s1 ?_ (r2.imp fun c hc => ⟨⟨hc.1.elim (fun w => L.nw w) fun m => mnw c m, hc.2⟩, hc.1⟩) fun b o hf ho => ⟨L2.ext.hh b o (not_owned hf) ho, fun hF => L2.ext.nwM b (not_owned hf) hF (by rw [show (Bs.mk F H (Owned Γ)).H = H from rfl, ho]; exact fun z => nomatch z), fun t o2 h2 hb => ?_⟩) fun _ _ _ _ _ _ z => z.elim
  · have nm : ∀ b, ¬ B.M b → B.H b ≠ none → ¬ Owned Γ b := fun b nb hB m => (mnw b m).elim (fun z => hB z) nb
    refine ⟨⟨L.ext.ff.trans s1, L2.same, fun b o nb hB => L2.ext.hh b o (nm b nb (by rw [hB]; exact fun z => nomatch z)) (L.ext.hh b o nb hB), fun b nb h1 h2 => L2.ext.nwM b (nm b nb h2) (L.ext.nwM b nb h1 h2) (fun z => ?_), fun b hb h => ?_⟩, L2.len, fun t s hs => ?_, L2.ap⟩
    · cases hB : B.H b with
      | none => exact h2 hB
      | some u =>
        have z : H b = none := z
        rw [L.ext.hh b u nb hB] at z
        cases z
    · have h1 := L.ext.th b hb h
      by_cases m : Owned Γ b
      · exact L2.ext.th b m h1
      · cases q : H b with
        | none => exact absurd q h1
        | some u => rw [L2.ext.hh b u m q]; exact fun z => nomatch z
    · have := L2.ok t s hs
      cases s with
      | no => trivial
      | val i x => exact this
      | own o =>
        obtain ⟨v, e, ok, f⟩ := this
        exact ⟨v, e, ok, fun b hb => ⟨(f b hb).1, (f b hb).2.elim (fun w => L.nw w) fun m => mnw b m⟩⟩
  · obtain ⟨_, _, _, f⟩ := slot_own L2 h2
    rcases (f b hb).2 with z | m
    · have z : H b = none := z
      rw [z] at ho; cases ho
    · exact not_owned hf m
theorem pair_key {K : PySem.W.Frag} {F : Hp} {v : V} {x : Int × Int} (h : repPair.rp K F v x) : ∃ c, v = V.ref c ∧ F c = some (.tup ([(.inl x.1 : _root_.L2.Key), .inl x.2].map kV)) := by
  obtain ⟨a, u, w, rfl, h1, h2, h3⟩ := h
  obtain rfl : u = V.int x.1 := h2
  obtain rfl : w = V.int x.2 := h3
  exact ⟨a, rfl, h1⟩
theorem st_bothNew (k : Nat) {y : Str} {py dpos : Pos} {kk : Nat} {key : Int × Int} {N : Addr → Own → List Slot → Prop} (hr0 : Room kk X.A) (ha : EV X Γ a key) (he : EG X Γ b (fun r Γ' => ∃ d oN, N d oN Γ' ∧ oN.root = V.ref d ∧ r = .own fun o => o = oN) (fun _ _ => False)) (hlen : ∀ d oN Γ', N d oN Γ' → k < Γ'.length) (hr : ∀ d oN Γ' ad, N d oN Γ' → ST X rest (Γ'.set k (.own (ownW (ownD (Int × Int) repPtr ad [(key, Ptr.mk d)]) [oN]))) E)
    (hND : X.N.Nodup) (hi : autoParam (X.N[k]? = some y) aRfl) (hx : autoParam (L2.Loc X.env.scope y) aLoc) (hs : autoParam (swapsWith (.Dict [some a] [b] dpos) (some (.Name y py)) pos.line X.env = pure false) aRfl) (hf : autoParam (X.fn y = true ∨ X.env.scope.names.lookup y = some .local) Tw.aFn) :
    ST X (.Assign [.Name y py] (.Dict [some a] [b] dpos) pos :: rest) Γ E := fun B F H σ D L ed =>
  WP.cons (ps_set hND hi hx (pe_disp1T (by have := hr0.units; omega) peW peW) hs hf) fun p hp => by
    have x0 := Ext.apart (o := .dT []) L.same hp
    have Lp := L.step x0
    refine ha B F _ σ _ Lp fun v1 F1 H1 e1 r1 => ?_
    have L1 := Lp.step e1
    have hpF : Free Γ p := fun t o ht hb => L.ne_own hp ht hb
    have hH1 : H1 p = some (.dT []) := e1.hs _ _ upd_same
    have hF1 : F1 p = none := e1.nw p (L.same.free hp) (by rw [upd_same]; exact fun z => nomatch z)
    refine eg_keep he L1 fun r v F2 H2 Γ2 hP s2 L2 ok keep => ?_
    obtain ⟨d, oN, hN, hroot, rfl⟩ := hP
    obtain ⟨o, rfl, fo, oko⟩ := ok
    obtain ⟨hH2, hF2, hfree⟩ := keep p _ hpF hH1
    have hF2 := hF2 hF1
    obtain rfl : v = V.ref d := by rw [← hroot]; exact o.rt oko
    obtain ⟨c, rfl, hc⟩ := pair_key r1
    refine ⟨hH2, _, c, rfl, L2.same _ _ (s2 _ _ hc), ?_⟩
    have hpo : p ∉ o.fp := fun hb => by
      rcases (fo p hb).1.2 with z | z
      · rw [hH1] at z; cases z
      · exact not_owned hpF z
    have disj : ∀ c' ∈ (ownD (Int × Int) repPtr p ([] : List ((Int × Int) × Ptr))).fp, c' ∉ o.fp := fun c' hc' => by rw [List.mem_singleton.mp hc']; exact hpo
    have L3 : Lc X.K B F2 H2 (σ.set k (some (.ref p))) (Γ2.set k (.own (ownW (ownD (Int × Int) repPtr p []) [o]))) := L2.putOO k (fun c' hc' => by
        rcases w_fp.mp hc' with z | ⟨o', ho', z⟩
        · rw [List.mem_singleton.mp z]; exact ⟨hF2, L.nw hp⟩
        · rw [List.mem_singleton.mp ho'] at z
          exact ⟨(fo c' z).2, (fo c' z).1.1.1⟩) (fun t o' _ ht c' hc' => by
        rcases w_fp.mp hc' with z | ⟨o'', ho'', z⟩
        · rw [List.mem_singleton.mp z]; exact hfree t o' ht
        · rw [List.mem_singleton.mp ho''] at z
          exact (fo c' z).1.1.2 t o' ht)
        ⟨⟨rfl, [], hH2, .nil⟩, fun o' ho' => by rw [List.mem_singleton.mp ho', hroot]; exact oko, fun o' ho' => by rw [List.mem_singleton.mp ho']; exact disj, fun s t a' b' hst h1 h2 => by
          match s, t, h1, h2 with
          | 0, 0, _, _ => exact absurd rfl hst
          | 0, _ + 1, _, h2 => cases h2
          | _ + 1, _, h1, _ => cases h1⟩
    have hk : k < Γ2.length := hlen d o Γ2 hN
    have hg3 : (Γ2.set k (.own (ownW (ownD (Int × Int) repPtr p []) [o])))[k]? = some (.own (ownW (ownD (Int × Int) repPtr p []) [o])) := List.getElem?_set_self hk
    obtain ⟨v3, ev3, ok3, fo3⟩ := slot_own L3 hg3
    have L4 : Lc X.K B F2 (upd H2 p (.dT [([(.inl key.1 : _root_.L2.Key), .inl key.2], V.ref d)])) (σ.set k (some (.ref p))) ((Γ2.set k (.own (ownW (ownD (Int × Int) repPtr p []) [o]))).set k (.own (ownW (ownD (Int × Int) repPtr p [(key, Ptr.mk d)]) [o]))) := by
      obtain ⟨⟨e5, _⟩, k2, k3, k4⟩ := id ok3
      refine L3.updO hg3 ev3 (fun c' w hc' hw => ?_) (fun c' hc' => ?_) (fun c' hc' => .inl hc') ⟨⟨e5, [(key, V.ref d)], upd_same, .cons ⟨rfl, rfl⟩ .nil⟩, fun o' ho' => ?_, k3, k4⟩
      · rw [upd_ne fun z => hc' (w_fp.mpr (.inl (by rw [z]; exact List.mem_singleton.mpr rfl)))]; exact hw
      · by_cases hcp : c' = p
        · rw [hcp, upd_same]; exact fun z => nomatch z
        · rw [upd_ne hcp]; exact (ownW (ownD (Int × Int) repPtr p []) [o]).there ok3 c' hc'
      · refine o'.stay (Same.refl _) (fun c' hc' u hu => ?_) (k2 o' ho')
        rw [upd_ne fun z => ?_]
        · exact hu
        · rw [List.mem_singleton.mp ho', z] at hc'
          exact hpo hc'
    rw [List.set_set] at L4
    exact hr d o Γ2 p hN B F2 _ _ D L4 (ed.weak ((x0.trans e1).ff.trans s2))
end
end Tw
namespace Tw
open PySem PySem.Spec PyProof.Rows L2 TL
noncomputable abbrev kII (x : Int × Int) : List _root_.L2.Key := [.inl x.1, .inl x.2]
theorem kII_inj : ∀ x y : Int × Int, kII x = kII y → x = y := fun x y h => by
  simp only [kII, List.cons.injEq, and_true] at h
  exact Prod.ext (Sum.inl.inj h.1) (Sum.inl.inj h.2)
noncomputable def lkP {α : Type} (i : Rep α) (a : Addr) (od : Obj) (kvs : List ((Int × Int) × V)) (l : List ((Int × Int) × α)) : Own where
  fp := [a]
  root := .ref a
  ok := fun K F H v => v = .ref a ∧ H a = some (.frz od (.dT (kvs.map fun p => (kII p.1, p.2)))) ∧ DRel i K F kvs l
  stay := fun s k ⟨e, h, p⟩ => ⟨e, k a (List.mem_singleton.mpr rfl) _ h, Paired.mapP p fun _ _ q => ⟨q.1, i.mono s q.2⟩⟩
  there := fun ⟨_, h, _⟩ b hb z => by rw [List.mem_singleton.mp hb, h] at z; cases z
  rt := fun h => h.1
noncomputable def puts {κ β : Type} [DecidableEq κ] (l : List (κ × β)) (zs : List (κ × β)) : List (κ × β) := zs.foldl (fun l z => put l z.1 z.2) l
theorem put_le {κ β : Type} [DecidableEq κ] (l : List (κ × β)) (k : κ) (v : β) : (put l k v).length ≤ l.length + 1 := by
  unfold put
  split
  · rw [List.length_map]; omega
  · rw [List.length_append, List.length_singleton]; omega
theorem puts_le {κ β : Type} [DecidableEq κ] : ∀ (zs l : List (κ × β)), (puts l zs).length ≤ l.length + zs.length
  | [], l => Nat.le_refl _
  | z :: zs, l => by
    have h1 := puts_le zs (put l z.1 z.2)
    have h2 := put_le l z.1 z.2
    show (puts (put l z.1 z.2) zs).length ≤ _
    rw [List.length_cons]
    omega
section
variable {X : Cx} {Γ : List Slot} {α β γ : Type} {i : Rep α} {j : Rep β} {lr : Rep γ} {pos p p0 p2 p3 : Pos} {e a b c ek ex : Expr} {es : List Expr} {E : SE} {rest sts : List Stmt}
theorem st_bothPut (m : Nat) {n : Str} {kk : Nat} {sp : Pos} {key : Int × Int} {ad : Addr} {l : List ((Int × Int) × Ptr)} {os : List Own} {N : Addr → Own → List Slot → Prop} (hr0 : Room kk X.A) (he : EG X Γ b (fun r Γ' => ∃ d oN, N d oN Γ' ∧ oN.root = V.ref d ∧ r = .own fun o => o = oN) (fun _ _ => False))
    (hm : ∀ d oN Γ', N d oN Γ' → Γ'[m]? = some (.own (ownW (ownD (Int × Int) repPtr ad l) os))) (ha : ∀ d oN Γ', N d oN Γ' → EV X Γ' a key) (hz : l.length < sizeLine)
    (hr : ∀ d oN Γ', N d oN Γ' → ST X rest (Γ'.set m (.own (ownW (ownD (Int × Int) repPtr ad (put l key (Ptr.mk d))) (os ++ [oN])))) E)
    (hN : autoParam (X.N[m]? = some n) aRfl) (hv : autoParam (Vis X.env.scope n) aVis) (hdd : autoParam ((n == ("__debug__" : Str)) = false) aDec) (hcd : autoParam ((n == ("__classdict__" : Str)) = false) aDec)
    (hs : autoParam (swapsWith b (some (.Subscript (.Name n p) a sp)) pos.line X.env = pure false) aRfl) :
    ST X (.Assign [.Subscript (.Name n p) a sp] b pos :: rest) Γ E := fun B F H σ D L ed =>
  WP.cons (ps_dput (by have := hr0.units; omega) (pe_var hN hv hdd hcd) peW peW hs) (he B F H σ _ L (fun r v F1 H1 Γ1 hP s1 L1 ok => by
    obtain ⟨d, oN, hNN, hroot, rfl⟩ := hP
    obtain ⟨o, rfl, fo, oko⟩ := ok
    obtain rfl : v = V.ref d := by rw [← hroot]; exact o.rt oko
    have hg := hm d o Γ1 hNN
    obtain ⟨v1, ev1, ok1, fo1⟩ := slot_own L1 hg
    obtain ⟨⟨rfl, _⟩, _⟩ := id ok1
    refine ⟨_, ev1, ha d o Γ1 hNN B F1 H1 σ _ L1 fun u F2 H2 e2 r2 => ?_⟩
    have L2 := L1.step e2
    obtain ⟨v2, ev2, ok2, fo2⟩ := slot_own L2 hg
    obtain ⟨⟨rfl, kvs, h2, pr2⟩, k2, k3, k4⟩ := id ok2
    have hl : kvs.length < sizeLine := by rw [Paired.length pr2]; exact hz
    have oko2 : o.ok X.K F2 H2 o.root := by rw [hroot]; exact o.stay e2.ff (fun c _ w z => e2.hs _ _ z) oko
    have hado : ad ∉ o.fp := fun hb => (fo ad hb).1.2 m _ hg (w_fp.mpr (.inl (List.mem_singleton.mpr rfl)))
    have hoF : ∀ c ∈ o.fp, F2 c = none := fun c hc => e2.nw c (fo c hc).2 (o.there oko c hc)
    refine ⟨ad, _, rfl, dkPair.put L2.same h2 r2 hl, hr d o Γ1 hNN B F2 _ σ D (L2.updO2 hg ev2 (fun c w hc hw => ?_) (fun c hc => ?_) (fun c hc => ?_) ⟨⟨rfl, _, upd_same, DRel.put pr2 (show repPtr.rp X.K F2 (V.ref d) (Ptr.mk d) from rfl)⟩, fun o' ho' => ?_, fun o' ho' c hc => ?_, fun s t a' b' hst h1 h3 c hc => ?_⟩) (ed.weak (s1.trans e2.ff))⟩
    · rw [upd_ne fun z => hc (w_fp.mpr (.inl (by rw [z]; exact List.mem_singleton.mpr rfl)))]; exact hw
    · by_cases hca : c = ad
      · rw [hca, upd_same]; exact fun z => nomatch z
      · rw [upd_ne hca]; exact (ownW (ownD (Int × Int) repPtr ad l) os).there ok2 c hc
    · rcases w_fp.mp hc with z | ⟨o', ho', z⟩
      · exact .inl (w_fp.mpr (.inl z))
      · rcases List.mem_append.mp ho' with ho' | ho'
        · exact .inl (w_fp.mpr (.inr ⟨o', ho', z⟩))
        · rw [List.mem_singleton.mp ho'] at z
          exact .inr ⟨hoF c z, (fo c z).1.1, fun q o2 hq => (fo c z).1.2 q o2 hq⟩
    · have st : ∀ o' : Own, ad ∉ o'.fp → o'.ok X.K F2 H2 o'.root → o'.ok X.K F2 (upd H2 ad (dkPair.ho (putK kvs key (V.ref d)))) o'.root := fun o' hn ho' => o'.stay (Same.refl _) (fun c hc w hw => by
        rw [upd_ne fun z => hn (by rw [← z]; exact hc)]; exact hw) ho'
      rcases List.mem_append.mp ho' with ho' | ho'
      · exact st o' (k3 o' ho' ad (List.mem_singleton.mpr rfl)) (k2 o' ho')
      · rw [List.mem_singleton.mp ho']; exact st o hado oko2
    · have hc : c = ad := List.mem_singleton.mp hc
      subst hc
      rcases List.mem_append.mp ho' with ho' | ho'
      · exact k3 o' ho' c (List.mem_singleton.mpr rfl)
      · rw [List.mem_singleton.mp ho']; exact hado
    · have at_ : ∀ (q : Nat) x, (os ++ [o])[q]? = some x → os[q]? = some x ∨ (q = os.length ∧ x = o) := fun q x hq => by
        rcases Nat.lt_trichotomy q os.length with h | h | h
        · rw [List.getElem?_append_left h] at hq; exact .inl hq
        · rw [List.getElem?_append_right (by omega), h, Nat.sub_self] at hq
          exact .inr ⟨h, (Option.some.inj hq).symm⟩
        · rw [List.getElem?_eq_none (by rw [List.length_append, List.length_singleton]; omega)] at hq
          cases hq
      have fr : ∀ a'' ∈ os, ∀ c ∈ o.fp, c ∉ a''.fp := fun a'' ha'' c hc hc2 => (fo c hc).1.2 m _ hg (w_fp.mpr (.inr ⟨a'', ha'', hc2⟩))
      rcases at_ s a' h1 with h1 | ⟨es, ea⟩
      · rcases at_ t b' h3 with h3 | ⟨et, eb⟩
        · exact k4 s t a' b' hst h1 h3 c hc
        · rw [eb]; exact fun z => fr a' (List.mem_of_getElem? h1) c z hc
      · rcases at_ t b' h3 with h3 | ⟨et, eb⟩
        · rw [ea] at hc; exact fr b' (List.mem_of_getElem? h3) c hc
        · exact absurd (es.trans et.symm) hst) fun _ _ _ _ _ _ z => z.elim)
theorem st_freezeW (k : Nat) {ad : Addr} {l : List ((Int × Int) × Ptr)} {os : List Own} {zs : List ((Int × Int) × α)} (hz : Paired (fun (q : (Int × Int) × Ptr) (z : (Int × Int) × α) => q.1 = z.1 ∧ ∃ o ∈ os, o.root = V.ref q.2.b ∧ Froz o z.2) l zs) (h : ST X sts (Γ.set k (.own (ownD (Int × Int) i ad zs))) E)
    (hg : autoParam (Γ[k]? = some (.own (ownW (ownD (Int × Int) repPtr ad l) os))) aRfl) : ST X sts Γ E := fun B F H σ D L ed => by
  obtain ⟨v, ev, ok, fo⟩ := slot_own L hg
  obtain ⟨⟨rfl, kvs, ha, pr⟩, k2, k3, k4⟩ := id ok
  have L1 : Lc X.K B F H σ (Γ.set k (.own (ownD (Int × Int) repPtr ad l))) := L.updO hg ev (fun _ _ _ q => q) (fun c hc => (ownW (ownD (Int × Int) repPtr ad l) os).there ok c hc) (fun c hc => .inl (w_fp.mpr (.inl hc))) ⟨rfl, kvs, ha, pr⟩
  have inW : ∀ c ∈ os.flatMap Own.fp, c ∈ (ownW (ownD (Int × Int) repPtr ad l) os).fp := fun c hc => List.mem_append_right _ hc
  obtain ⟨L2, s2⟩ := L1.freezeN (ps := os.flatMap Own.fp) fun c hc => ⟨(fo c (inW c hc)).2, fun q o2 hq hc2 => by
    rcases get_set_slot hq with ⟨_, _, eo⟩ | ⟨ne, hq⟩
    · cases eo
      obtain ⟨o, ho, hco⟩ := List.mem_flatMap.mp hc
      exact k3 o ho c hc2 hco
    · exact L.ap k q _ o2 ne hg hq c (inW c hc) hc2, (fo c (inW c hc)).1⟩
  by_cases hk : k < Γ.length
  · have hg2 : (Γ.set k (.own (ownD (Int × Int) repPtr ad l)))[k]? = some (.own (ownD (Int × Int) repPtr ad l)) := List.getElem?_set_self hk
    have key : DRel i X.K (frz F H (os.flatMap Own.fp)) kvs zs := by
      have go : ∀ {ks : List ((Int × Int) × V)} {m : List ((Int × Int) × Ptr)} {ys : List ((Int × Int) × α)}, DRel repPtr X.K F ks m → Paired (fun (q : (Int × Int) × Ptr) (z : (Int × Int) × α) => q.1 = z.1 ∧ ∃ o ∈ os, o.root = V.ref q.2.b ∧ Froz o z.2) m ys → DRel i X.K (frz F H (os.flatMap Own.fp)) ks ys := fun {ks m ys} r => by
        induction r generalizing ys with
        | nil => intro hy; cases hy; exact .nil
        | @cons x q xs qs r1 _ ih =>
          intro hy
          cases hy with
          | @cons _ z _ zs hq hy =>
            refine .cons ⟨r1.1.trans hq.1, ?_⟩ (ih hy)
            obtain ⟨o, ho, er, hf⟩ := hq.2
            have e1 : x.2 = V.ref q.2.b := r1.2
            rw [e1, ← er]
            have fz : ∀ c ∈ o.fp, F c = none := fun c hc => (fo c (inW c (List.mem_flatMap.mpr ⟨o, ho, hc⟩))).1
            refine i.mono (fun c u eu => ?_) (hf L.same (k2 o ho) fz)
            by_cases hc : c ∈ o.fp
            · rw [frz_in hc] at eu
              rw [frz_in (List.mem_flatMap.mpr ⟨o, ho, hc⟩)]; exact eu
            · rw [frz_out hc] at eu
              rw [frz_out fun hc2 => by rw [(fo c (inW c hc2)).1] at eu; cases eu]; exact eu
      exact go pr hz
    have L3 := L2.updO (o' := ownD (Int × Int) i ad zs) hg2 ev (fun _ _ _ q => q) (fun c hc => by rw [List.mem_singleton.mp hc, ha]; exact fun z => nomatch z) (fun c hc => .inl hc) ⟨rfl, kvs, ha, key⟩
    rw [List.set_set] at L3
    exact h B _ H σ D L3 (ed.weak s2)
  · rw [List.getElem?_eq_none (by omega)] at hg; cases hg
theorem en_valsP {o : Expr} {l : Dic (Int × Int) α} {ap cp : Pos} (he : EV X Γ o l) (hml : X.mg "list" = none) (hc : autoParam (X.calm = true) aRfl) (hgl : autoParam (Gl X "list") aRfl)
    (hb2 : autoParam (attributeBase o "values" X.env (eval o X.env) = eval o X.env) aRfl) (hl2 : autoParam ((ap.endLine == cp.line) = true) aRfl)
    (hs : autoParam (starEach [.Call (.Attribute o "values" ap) [] [] cp] X.env = (false, eval (.Call (.Attribute o "values" ap) [] [] cp) X.env) :: starEach [] X.env) aStar) (hpl : autoParam ((backTo pos (starEach [] X.env)).any (·.1) = false) aPl) :
    EN X Γ (.Call (.Name "list" p0) [.Call (.Attribute o "values" ap) [] [] cp] [] pos) (l.l.map (·.2)) := fun B F H σ Q L q =>
  WE.of (pe_callTy (call_list_vals hc) hgl hml (by decide +kernel) (pa_cons (pe_bm0 PySem.F.plainAttrs_dict PySem.F.slot_dict_values PySem.F.type_dict_values mt_values2 peW hb2 hl2) pa_nil hs) (by decide) (by decide) hs hpl) (he B F H σ _ L fun v F1 H1 e1 r1 => by
    obtain ⟨ad, kvs, rfl, ha, pr⟩ := r1
    have L1 := L.step e1
    have hT : H1 ad = some (.dT (kvs.map fun p => (kII p.1, p.2))) := L1.same _ _ ha
    refine ⟨.inr (.inr (.inl ⟨rfl, .inr ⟨_, hT⟩⟩)), ad, _, rfl, rfl, .inr ⟨_, hT, rfl⟩, fun q' hq' => ?_⟩
    have x2 := Ext.apart (o := valuesO q' ad) L1.same hq'
    have L2 := L1.step x2
    refine ⟨q', ad, _, rfl, upd_same, .inr ⟨_, x2.hs _ _ hT, rfl⟩, fun r hr' => ?_⟩
    have x3 := Ext.apart (o := .lst ((kvs.map fun p => (kII p.1, p.2)).map (·.2))) L2.same hr'
    have e4 := e1.trans x2
    exact q r _ F1 _ (e4.trans x3) (e4.hs.free hr') (L2.same.free hr') upd_same (drel_vs (e := kII) pr))
end
section
variable {X : Cx} {Γ : List Slot} {α β : Type} {i : Rep α} {j : Rep β} {pos p p2 p3 pos2 : Pos} {e a b c : Expr} {E : SE} {rest : List Stmt} {f1 f2 : Str} {C sad dx da : Addr} {x : α} {lk zs : List ((Int × Int) × β)}
theorem st_forItemsPut (m s kx vx : Nat) {n y yv ns : Str} {py pv tp apos cpos psf pat pst py2 pv2 pas : Pos} {kk kk0 : Nat} {ad : Addr} (hr0 : Room kk0 X.A) (hz : lk.length + zs.length < sizeLine) (hL : kx < Γ.length ∧ vx < Γ.length) (hne : f1 ≠ f2) (hc : Cls X.K C) (hn : NoAttr X.K C f2)
    (hr : ∀ Γ', Γ'[s]? = some (.own (ownC i j f1 f2 C sad dx da x (puts lk zs))) → ST X rest Γ' E)
    (hgm : autoParam (Γ[m]? = some (.own (ownD (Int × Int) j ad zs))) aRfl) (hgs : autoParam (Γ[s]? = some (.own (ownC i j f1 f2 C sad dx da x lk))) aRfl) (d1 : autoParam (m ≠ s ∧ m ≠ kx ∧ m ≠ vx ∧ s ≠ kx ∧ s ≠ vx ∧ kx ≠ vx) aDec)
    (hND : X.N.Nodup) (hg : PG X (.Tuple [.Name y py, .Name yv pv] kk tp) (gTup X.K 2 (gCons (gName kx) (gCons (gName vx) gNil)))) (hN : autoParam (X.N[m]? = some n) aRfl) (hNs : autoParam (X.N[s]? = some ns) aRfl) (hNy : autoParam (X.N[kx]? = some y) aRfl) (hNv : autoParam (X.N[vx]? = some yv) aRfl)
    (hv : autoParam (Vis X.env.scope n) aVis) (hdd : autoParam ((n == ("__debug__" : Str)) = false) aDec) (hcd : autoParam ((n == ("__classdict__" : Str)) = false) aDec)
    (hv1 : autoParam (Vis X.env.scope ns) aVis) (hd1 : autoParam ((ns == ("__debug__" : Str)) = false) aDec) (hc1 : autoParam ((ns == ("__classdict__" : Str)) = false) aDec)
    (hv2 : autoParam (Vis X.env.scope y) aVis) (hd2 : autoParam ((y == ("__debug__" : Str)) = false) aDec) (hc2 : autoParam ((y == ("__classdict__" : Str)) = false) aDec)
    (hv3 : autoParam (Vis X.env.scope yv) aVis) (hd3 : autoParam ((yv == ("__debug__" : Str)) = false) aDec) (hc3 : autoParam ((yv == ("__classdict__" : Str)) = false) aDec)
    (hbs : autoParam (attributeBase (.Name ns psf) f2 X.env (eval (.Name ns psf) X.env) = eval (.Name ns psf) X.env) aRfl)
    (hsw : autoParam (swapsWith (.Name yv pv2) (some (.Subscript (.Attribute (.Name ns psf) f2 pat) (.Name y py2) pst)) pas.line X.env = pure false) aRfl)
    (hbase : autoParam (attributeBase (.Name n p) "items" X.env (eval (.Name n p) X.env) = eval (.Name n p) X.env) aRfl) (hline : autoParam ((apos.endLine == cpos.line) = true) aRfl)
    (hp : autoParam (PassesOwn (model X.prog X.w) X.A X.env X.xe) Tw.aPass) (hcm : autoParam (X.calm = true) aRfl) (hs : autoParam (∀ x, foldedSetIterable (.Call (.Attribute (.Name n p) "items" apos) [] [] cpos) X.env x = pure x) Tw.aIR1) :
    ST X (.For (.Tuple [.Name y py, .Name yv pv] kk tp) (.Call (.Attribute (.Name n p) "items" apos) [] [] cpos) [.Assign [.Subscript (.Attribute (.Name ns psf) f2 pat) (.Name y py2) pst] (.Name yv pv2) pas] [] pos :: rest) Γ E := fun B F H σ D L ed => by
  obtain ⟨v0, ea, ⟨rfl, kvs, ha, pr⟩, _⟩ := slot_own L hgm
  obtain ⟨n1, n2, n3, n4, n5, n6⟩ := d1
  have ha : H ad = some (.dT (kvs.map fun p => (kII p.1, p.2))) := ha
  refine WP.cons (ps_lock (ps_for hp hcm (pi_itemsT (pe_var hN hv hdd hcd) hbase hline) hg psW hs)) ⟨ad, _, ha, True.intro, fun od => ?_⟩
  have L1 : Lc X.K B F (upd H ad (.frz od (.dT (kvs.map fun p => (kII p.1, p.2))))) σ (Γ.set m (.own (lkP j ad od kvs zs))) := L.updO hgm ea (fun b w hb q => by rw [upd_ne fun z => hb (List.mem_singleton.mpr z)]; exact q) (fun b hb => by rw [List.mem_singleton.mp hb, upd_same]; exact fun z => nomatch z) (fun b hb => .inl hb) ⟨rfl, upd_same, pr⟩
  have hml : m < Γ.length := (List.getElem?_eq_some_iff.mp hgm).1
  have hkl : kvs.length = zs.length := Paired.length pr
  refine ⟨_, ea, ad, od, _, rfl, upd_same, fun t m' σ H => m' = zs.length - t ∧ t ≤ zs.length ∧ ∃ Γ', (Γ'[m]? = some (.own (lkP j ad od kvs zs)) ∧ Γ'[s]? = some (.own (ownC i j f1 f2 C sad dx da x (puts lk (zs.take t)))) ∧ Γ'.length = Γ.length) ∧ Lc X.K B F H σ Γ', ⟨zs.length, rfl, Nat.zero_le _, _, ⟨List.getElem?_set_self hml, by rw [List.getElem?_set_ne n1]; exact hgs, List.length_set⟩, L1⟩, ?_⟩
  rintro t m0 σ H ⟨rfl, ht, Γ', ⟨hm, hself, hΓ⟩, L2⟩
  obtain ⟨_, em, ⟨rfl, hH, pr2⟩, _⟩ := slot_own L2 hm
  by_cases hlt : t < zs.length
  · have hx : zs[t]? = some zs[t] := List.getElem?_eq_getElem hlt
    refine .inr ⟨⟨hH, by rw [List.length_map, hkl]; exact hlt⟩, fun σ' H' => ∃ Γ3, (Γ3[m]? = some (.own (lkP j ad od kvs zs)) ∧ Γ3[s]? = some (.own (ownC i j f1 f2 C sad dx da x (puts lk (zs.take (t + 1))))) ∧ Γ3.length = Γ.length) ∧ Lc X.K B F H' σ' Γ3, fun σ' H' h => ⟨zs.length - (t + 1), by omega, rfl, hlt, h⟩, fun v H3 hy => ?_⟩
    obtain ⟨T, ks, w, q, hkv, rfl, hT, _, hq, rfl⟩ := hy
    have hks : ks = kII zs[t].1 ∧ j.rp X.K F w zs[t].2 := by
      rw [List.getElem?_map] at hkv
      obtain ⟨y, hy, ey⟩ := Option.map_eq_some_iff.mp hkv
      obtain ⟨z, hz, rz⟩ := pgetL pr2 hx
      rw [hy] at hz
      cases hz
      cases ey
      exact ⟨by rw [rz.1], rz.2⟩
    obtain ⟨rfl, hw⟩ := hks
    have L3 := L2.step (Ext.apart L2.same hT (o := .tup [.ref q, w]))
    have hq3 : upd H T (.tup [.ref q, w]) q = some (.tup ((kII zs[t].1).map kV)) := by
      rw [upd_ne (ne_of_none hq hT)]; exact hq
    refine ⟨T, [.ref q, w], rfl, .inl (.inl upd_same), rfl, .ref q, [w], rfl, w, [], rfl, rfl, ?_⟩
    have L4 := (L3.putN kx (some (.ref q))).putN vx (some w)
    have hlen := L3.len
    have hsl : s < Γ'.length := (List.getElem?_eq_some_iff.mp hself).1
    have hself4 : ((Γ'.set kx .no).set vx .no)[s]? = some (.own (ownC i j f1 f2 C sad dx da x (puts lk (zs.take t)))) := by rw [List.getElem?_set_ne (Ne.symm n5), List.getElem?_set_ne (Ne.symm n4)]; exact hself
    have hm4 : ((Γ'.set kx .no).set vx .no)[m]? = some (.own (lkP j ad od kvs zs)) := by rw [List.getElem?_set_ne (Ne.symm n3), List.getElem?_set_ne (Ne.symm n2)]; exact hm
    obtain ⟨v4, ev4, ⟨rfl, ⟨a1, a2, a3⟩, g1, ⟨w1, g2, gr⟩, kvs4, g3, pr4⟩, _⟩ := slot_own L4 hself4
    have eq4 : ((σ.set kx (some (V.ref q))).set vx (some w))[kx]? = some (some (V.ref q)) := by
      rw [List.getElem?_set_ne (Ne.symm n6)]
      exact List.getElem?_set_self (by rw [L2.len, hΓ]; exact hL.1)
    have ew4 : ((σ.set kx (some (V.ref q))).set vx (some w))[vx]? = some (some w) := by
      exact List.getElem?_set_self (by rw [List.length_set, L2.len, hΓ]; exact hL.2)
    have hput : (puts lk (zs.take t)).length ≤ lk.length + t := by
      have h1 := puts_le (zs.take t) lk
      have h2 : (zs.take t).length ≤ t := List.length_take_le ..
      omega
    have hl4 : kvs4.length < sizeLine := by rw [Paired.length pr4]; omega
    have g3' : upd H T (.tup [.ref q, w]) da = some (.dT (kvs4.map fun p => (kII p.1, p.2))) := g3
    have eput : (HO.dT (putK (kvs4.map fun p => (kII p.1, p.2)) (kII zs[t].1) w)) = dkPair.ho (putK kvs4 zs[t].1 w) := by
      rw [putK_inj kII_inj]
      rfl
    refine WP.cons (ps_dput (by have := hr0.units; omega) (pe_fld (pe_var hNs hv1 hd1 hc1) hbs) (pe_var hNy hv2 hd2 hc2) (pe_var hNv hv3 hd3 hc3) hsw) ⟨_, ew4, _, ev4, sad, C, dx, _, .ref da, rfl, g2, hc, hn, by rw [lookup_ne hne.symm, lookup_eq], _, eq4, da, _, rfl, DPut.t g3' hq3 (by rw [List.length_map]; exact hl4), WP.of pss_nil ?_⟩
    rw [eput]
    have htake : puts lk (zs.take (t + 1)) = put (puts lk (zs.take t)) zs[t].1 zs[t].2 := by
      unfold puts
      rw [List.take_add_one, hx, List.foldl_append]
      rfl
    refine ⟨_, ⟨?_, ?_, by rw [List.length_set, List.length_set, List.length_set]; exact hΓ⟩, L4.updO (o' := ownC i j f1 f2 C sad dx da x (puts lk (zs.take (t + 1)))) hself4 ev4 (fun b u hb q => ?_) (fun b hb => ?_) (fun b hb => .inl hb) ⟨rfl, ⟨a1, a2, a3⟩, ?_, ⟨w1, ?_, gr⟩, _, upd_same, by rw [htake]; exact DRel.put pr4 hw⟩⟩
    · rw [List.getElem?_set_ne (Ne.symm n1)]; exact hm4
    · exact List.getElem?_set_self (by rw [List.length_set, List.length_set]; exact hsl)
    · rw [upd_ne fun z => hb (by rw [z]; show da ∈ [sad, dx, da]; simp)]; exact q
    · have hb' : b = sad ∨ b = dx ∨ b = da := by
        have : b ∈ [sad, dx, da] := hb
        simpa using this
      rcases hb' with rfl | rfl | rfl
      · rw [upd_ne a2, g2]; exact fun z => nomatch z
      · rw [upd_ne a3, g1]; exact fun z => nomatch z
      · rw [upd_same]; exact fun z => nomatch z
    · rw [upd_ne a3]; exact g1
    · rw [upd_ne a2]; exact g2
  · have et : t = zs.length := by omega
    subst et
    rw [List.take_length] at hself
    have hsl : s < Γ'.length := (List.getElem?_eq_some_iff.mp hself).1
    have L3 : Lc X.K B F (upd H ad (.dT (kvs.map fun p => (kII p.1, p.2)))) σ (Γ'.set m (.own (ownD (Int × Int) j ad zs))) :=
      L2.updO hm em (fun b w hb q => by rw [upd_ne fun z => hb (List.mem_singleton.mpr z)]; exact q) (fun b hb => by rw [List.mem_singleton.mp hb, upd_same]; exact fun z => nomatch z) (fun b hb => .inl hb) ⟨rfl, kvs, upd_same, pr2⟩
    exact .inl ⟨⟨hH, by rw [List.length_map, hkl]; exact Nat.le_refl _⟩, hH, hr _ (by rw [List.getElem?_set_ne n1]; exact hself) B F _ σ D L3 ed⟩
end
end Tw
namespace L2
open PySem PySem.Spec PyProof.Rows PySem.W PySem.Calls
section
variable {X : Cx} {pins : List (Addr × Obj)} {σ : St} {H : Hp} {s : Shared} {A : Around} {β : Type} {k : β → PyData} {bs : List β}
theorem sorted_listKey {r : Addr} {vs : List Value} {R : Value → β → Prop} {fa : Addr} {Q : Value → Shared → Prop} (hli : s.heap.IsList r vs.toArray) (I : Inv X pins σ H s) (hn : vs.length ≤ sizeLine)
    (hE : EachIs R vs bs) (hal : AllAlike (bs.map k)) (hsk : Sortable (bs.map k)) (hu : ∀ d, d ∈ bs.map k → A.units + 2 + d.depth < cLine)
    (turn : ∀ (u : Value) (x : β), R u x → x ∈ bs → ∀ (H' : Hp) (pins' : List (Addr × Obj)) (s' : Shared), (∀ c o, H c = some o → H' c = some o) → Inv X pins' σ H' s' → ∀ Qk : VK, (∀ v H'', (∀ c o, H' c = some o → H'' c = some o) → Dp X.K H'' v (k x) → Qk v H'') →
      wpAny (model X.prog X.w) A.in1.in1 (call (.ref fa) [u]) (EP X pins' σ Qk) (fun _ _ => False) s')
    (dm : ∀ (H' H'' : Hp) (v : V) (d : PyData), (∀ c o, H' c = some o → H'' c = some o) → Dp X.K H' v d → Dp X.K H'' v d)
    (h : ∀ H' s' out a c, (∀ c o, H c = some o → H' c = some o) → Inv X pins σ H' s' → FpOk X pins H' a → s'.heap.get? a = some (seqObj "list" (List.toArray out) c) → EachIs R out (bs.mergeSort (dataLe false k)) → Q (.ref a) s') :
    wpAny (model X.prog X.w) A (call (.builtin "sorted") [.ref r] [(Str.ofString "key", .ref fa)]) Q X.xe s := by
  refine call_function_entry_kw kind_sorted plain_sorted entry_sorted (ksk_s1 _ _) ?_
  unfold Builtin.«sorted»
  refine wpAny_bind (m := checkCount "sorted" 1 1 _) (wpAny_pure ?_)
  refine wpAny_bind (collect_list hli ?_ hn)
  have hk : ∀ b o, s.heap.get? b = some o → ((s.heap.push (seqObj "list" #[] 0)).update s.heap.objs.size (Obj.mapSeq (· ++ vs.toArray))).get? b = some o := fun b o q => by
    rw [Heap.get?_update_ne _ _ _ _ (Nat.ne_of_lt (Heap.lt_size q))]
    exact Heap.get?_push_of_some _ q
  generalize (s.heap.push (seqObj "list" #[] 0)).update s.heap.objs.size (Obj.mapSeq (· ++ vs.toArray)) = h' at hk ⊢
  refine wpAny_bind (wpAny_newList ?_ hn)
  have I1 := I.kept (t' := s.toks) hk
  have I2 := I1.kept (t' := s.toks) (h' := h'.push (seqObj "list" vs.toArray 0)) fun c o q => Heap.get?_push_of_some _ q
  have fa0 := I1.fpOk (H' := H) (b := h'.objs.size) (Nat.le_refl _) (I1.hok.fresh (Nat.le_refl _))
  have hg : (h'.push (seqObj "list" vs.toArray 0)).get? h'.objs.size = some (seqObj "list" vs.toArray 0) := Heap.get?_push_size _ rfl
  have I3 := repin I2 fa0 hg (fun v z => by cases z)
  refine wpAny_bind (wpAny_holding (wpAny_call_entry_kw slot_list_sort ⟨_, hg, rfl⟩ entry_list_sort ?body (ksk_l1 _ _)))
  case body =>
    rw [ksk_t1]
    refine wpAny_mono (keyI_tree (P := fun f s' => f = .done (.ret .none) ∧ Q (.ref h'.objs.size) s') I3 I1.sz (fun p hp => fa0.2.2.2.2.2 p hp) hE.length.symm hn hal hsk hu
      (fun j u x hu' hx => turn u x (hE.zip (u, x) (List.mem_of_getElem? (i := j) (by rw [List.getElem?_zip_eq_some]; exact ⟨hu', hx⟩))) (List.mem_of_getElem? hx)) dm fun H' s' out c hs I' fp hget ko => ⟨rfl, h H' s' out _ c hs I' fp hget (keyedOut_each k ko hE)⟩) (fun f s' hf => ?_) fun _ _ e => e
    obtain ⟨rfl, hq⟩ := hf
    exact ⟨_, rfl, wpAny_pure ⟨_, rfl, hq⟩⟩
end
end L2
namespace L2
open PySem PySem.Spec PyProof.Rows PySem.W PySem.Calls
section
variable {X : Cx}
noncomputable def rSLK (X : Cx) {β : Type} (k : β → PyData) : List V → List V → Hp → VK → Prop := fun xs zs H Q => ∃ (p fa : Addr) (ws : List V) (bs : List β) (Rb : V → β → Prop), xs = [.ref p] ∧ zs = [.ref fa] ∧ H p = some (.lst ws) ∧ Paired Rb ws bs ∧ AllAlike (bs.map k) ∧ Sortable (bs.map k) ∧ (∀ d ∈ bs.map k, d.depth ≤ 64) ∧
  (∀ (v : V) (u : Value) (x : β), RelV v u → Rb v x → x ∈ bs → ∀ (H' : Hp) (pins' : List (Addr × Obj)) (σ' : St) (s' : Shared), (∀ c o, H c = some o → H' c = some o) → Inv X pins' σ' H' s' → ∀ Qk : VK, (∀ v H'', (∀ c o, H' c = some o → H'' c = some o) → Dp X.K H'' v (k x) → Qk v H'') →
    wpAny (model X.prog X.w) X.A.in1.in1 (call (.ref fa) [u]) (EP X pins' σ' Qk) (fun _ _ => False) s') ∧
  ∀ (H' : Hp) (vs : List V) (T : Addr), (∀ b o, H b = some o → H' b = some o) → Paired Rb vs (bs.mergeSort (dataLe false k)) → H' T = none → Q (.ref T) (upd H' T (.lst vs))
theorem vals_each {β : Type} {Rb : V → β → Prop} : ∀ {ws : List V} {us : List Value} {bs : List β}, Vals ws us → Paired Rb ws bs → EachIs (fun u x => ∃ v, RelV v u ∧ Rb v x) us bs
  | _, _, _, .nil, .nil => .nil
  | _, _, _, .cons r rs, .cons p ps => .cons ⟨_, r, p⟩ (vals_each rs ps)
theorem cr_sortLK {β : Type} (k : β → PyData) (hu : X.A.units + 100 < cLine) : CallRK X (.builtin "sorted") ["key"] (rSLK X k) := by
  intro pins s σ H xs zs us ws Q I r1 r2 h
  obtain ⟨p, fa, vs, bs, Rb, rfl, rfl, hp, pb, hal, hsk, hdp, turn, q⟩ := h
  rw [Vals.ref1 r1, Vals.ref1 r2]
  obtain ⟨hz, its, c, rv, hg⟩ := (show ObjOk X.prog X.w H s.heap p (.lst vs) from I.hok p _ hp)
  have hE := vals_each rv pb
  have hlen : its.length = bs.length := hE.length
  have hl2 : vs.length = its.length := Paired.length rv
  show wpAny _ _ (call (.builtin "sorted") [.ref p] [(Str.ofString "key", .ref fa)]) _ _ _
  refine sorted_listKey (k := k) (bs := bs) (R := fun u x => ∃ v, RelV v u ∧ Rb v x) (PySem.IsL.isList hg) I (by omega) hE hal hsk (fun d hd' => by have := hdp d hd'; omega) (fun u x ⟨v, rv, rb⟩ hxm H' pins' s' hs I' Qk hQ => turn v u x rv rb hxm H' pins' σ s' hs I' Qk hQ) (fun H' H'' v d hs hd' => dp_mono hs hd') fun H' s' out T c hs I' fp hg hE => ?_
  obtain ⟨vs', rv', pr⟩ := each_vals hE
  have hlen' : vs'.length ≤ sizeLine := by
    rw [Paired.length pr, List.length_mergeSort]; omega
  exact ⟨.ref T, upd H' T (.lst vs'), I'.adopt fp ⟨hlen', out, c, rv', hg⟩, rfl, q H' vs' T hs pr fp.1⟩
end
end L2
namespace Tw
open PySem PySem.Spec PyProof.Rows L2 TL
section
variable {X : Cx} {Γ : List Slot} {α β γ : Type} {i : Rep α} {j : Rep γ} {pos p p2 p3 : Pos} {e a b c : Expr} {es : List Expr} {E : SE} {rest : List Stmt}
theorem en_sortedK {fn : Str} {k0 : Nat} {p1 : Str} {S : Spec} {xs : List α} {kf : α → γ} [h2 : IsD γ] {kp kp2 : Pos} (hm : X.mg "sorted" = none) (he0 : EV X Γ e xs) (G : Has X.prog X.w X.K X.mg X.base k0 fn [p1] S) (hr : Room (k0 + 2) X.A)
    (hS : ∀ x ∈ xs, ∀ P' R', P' (.val j (kf x)) → S [.val i x] P' R') (hal : PySem.W.AllAlike (xs.map fun x => (h2.d (kf x)).py)) (hsk : PySem.W.Sortable (xs.map fun x => (h2.d (kf x)).py)) (hdp : ∀ x ∈ xs, ((h2.d (kf x)).py).depth ≤ 64)
    (hg : autoParam (Gl X "sorted") aRfl) (hg2 : autoParam (Gl X fn) aRfl) (hd2 : autoParam ((fn == ("__debug__" : Str)) = false) aDec)
    (hs : autoParam (starEach [e] X.env = (false, eval e X.env) :: starEach [] X.env) aStar) (he : autoParam (backTo pos (starEach [e] X.env) = (false, eval e X.env) :: backTo pos (starEach [] X.env)) aRfl) (hpl : autoParam ((backTo pos (starEach [e] X.env)).any (·.1) = false) aRfl)
    (hall : autoParam ((backToKw pos (keywordEach [⟨some "key", .Name fn kp2, kp⟩] X.env)).all (·.1.isSome) = true) aRfl) (hnone : autoParam ((backToKw pos (keywordEach [⟨some "key", .Name fn kp2, kp⟩] X.env)).any (·.1.isNone) = false) aRfl)
    (hks : autoParam ((backToKw pos (keywordEach [⟨some "key", .Name fn kp2, kp⟩] X.env)).filterMap (·.1) = [Str.ofString "key"]) aRfl) :
    EN X Γ (.Call (.Name "sorted" p) [e] [⟨some "key", .Name fn kp2, kp⟩] pos) (xs.mergeSort (PySem.W.dataLe false fun x => (h2.d (kf x)).py)) := fun B F H σ Q L q => by
  obtain ⟨f, fd, hmf, hkp, hb, GF⟩ := G.ex
  refine WE.of (pe_callBK (cr_sortLK (fun x => (h2.d (kf x)).py) (by have := hr.un; omega)) hg hm (by decide +kernel) (pa_cons peW pa_nil hs) (pk_cons (pe_glob (v := .ref f) hg2 hmf rfl hd2) pk_nil) (by decide) (by decide) he hpl hall hnone hks) (he0 B F H σ _ L fun v F1 H1 e1 r1 => ?_)
  obtain ⟨ad, vs, rfl, ha, pr⟩ := r1
  have L1 := L.step e1
  refine ⟨ad, f, vs, xs, fun v x => i.rp X.K F1 v x, rfl, rfl, L1.same _ _ ha, pr, hal, hsk, fun d hd' => ?_, fun v u x rv rb hx H' pins' σ' s' hs' I' Qk hQ => ?_, fun H' vs T hs' pv hT => ?_⟩
  · obtain ⟨x, hx, rfl⟩ := List.mem_map.mp hd'
    exact hdp x hx
  · have sF : Same F1 H' := fun c o h => hs' _ _ (L1.same _ _ h)
    have hr2 : Room k0 X.A.in1.in1 := (hr.in1).in1
    refine wpAny_call (codeAny_mono (GF.run X.A.in1.in1 X.stack s' H' ⟨[u], []⟩ [u] [v] Qk (fun _ _ _ => False) hr2 I'.env0.in1.in1 (by simpa using hb s' [u] I'.kIn rfl) (.cons rv .nil) ?_) fun r s'' hq => ?_)
    · refine ⟨F1, [.val i x], sF, ?_, ?_, hS x hx _ _ fun w F' H'' ex ok => ?_⟩
      · exact ⟨rb, trivial⟩
      · exact apart_v1
      · exact hQ w H'' (fun c o h => ex.hh c o noMA h) (rpD_dp _ _ (rpD_mono ex.fh _ _ (h2.iff.mp ok)))
    · cases r with
      | error e => exact False.elim (by obtain ⟨_, _, _, _, _, _, _, _, _, _, _, _, hF⟩ := (hq : L2.CX _ _ _ _ _ _ _ _); exact hF)
      | ok fl =>
        cases fl with
        | ret u => exact I'.after hq
        | next => exact False.elim hq
        | brk => exact False.elim hq
        | cont => exact False.elim hq
  · have hTH : H1 T = none := by
      cases q1 : H1 T with
      | none => rfl
      | some o => rw [hs' _ _ q1] at hT; cases hT
    have ex : Ext F1 H1 F1 (upd H' T (.lst vs)) := ⟨Same.refl F1, fun c o h => by rw [upd_ne (ne_of_none (hs' _ _ (L1.same _ _ h)) hT)]; exact hs' _ _ (L1.same _ _ h), fun c o _ h => by rw [upd_ne (ne_of_none (hs' _ _ h) hT)]; exact hs' _ _ h, fun _ _ h _ => h, fun _ z => z.elim⟩
    exact q T vs F1 _ (e1.trans ex) (e1.hs.free hTH) (L1.same.free hTH) upd_same pv
end
end Tw
namespace Tw
open PySem PySem.SeqAt PySem.Spec PyProof.Rows L2 TL
noncomputable abbrev PI := List Tx × Int
set_option genInjectivity true in
inductive Flats : List Slot → Prop
  | nil : Flats []
  | no {l} (h : Flats l) : Flats (.no :: l)
  | val {α : Type} [i : Rep α] [Flat α] {x : α} {l} (h : Flats l) : Flats (.val i x :: l)
theorem Flats.get : ∀ {l : List Slot}, Flats l → ∀ {q : Nat} {s : Slot}, l[q]? = some s → s = .no ∨ ∃ (α : Type) (i : Rep α) (x : α), s = .val i x ∧ ∀ {K F F' v}, i.rp K F v x → i.rp K F' v x
  | _, .nil, q, s, h => by cases h
  | _, .no h, 0, s, e => by cases e; exact .inl rfl
  | _, .no h, q + 1, s, e => h.get (q := q) e
  | _, @Flats.val _ i fl x _ h, 0, s, e => by cases e; exact .inr ⟨_, i, x, rfl, fun r => fl.fl r⟩
  | _, @Flats.val _ _ _ _ _ h, q + 1, s, e => h.get (q := q) e
end Tw
namespace Tw
open PySem PySem.Spec PyProof.Rows L2 TL NdefX LamX
end Tw
namespace Tw
open PySem PySem.Spec PyProof.Rows L2 TL PySem.NumText PySem.W.KIN
end Tw
namespace Tw
open PySem PySem.Spec PyProof.Rows L2 TL
end Tw
namespace Tw
open PySem PySem.Spec PyProof.Rows L2 TL LcAir
end Tw
namespace Tw
open PySem PySem.Spec PyProof.Rows L2 TL LcAir
noncomputable abbrev KNm := Tx × Tup Tx
noncomputable def nkey (x : KNm) : NestedKey := .tup [.text (sx x.1), .tup (x.2.l.map fun t => .text (sx t))]
theorem ntexts_inj : ∀ b d : List Tx, b.map (fun t => NestedKey.text (sx t)) = d.map (fun t => NestedKey.text (sx t)) → b = d
  | [], [], _ => rfl
  | [], _ :: _, h => nomatch h
  | _ :: _, [], h => nomatch h
  | u :: b, t :: d, h => by
    rw [List.map_cons, List.map_cons] at h
    obtain ⟨p, q⟩ := List.cons.inj h
    have p := congrArg tl (NestedKey.text.inj p)
    rw [tl_sx, tl_sx] at p
    rw [p, ntexts_inj b d q]
theorem nkey_inj {x y : KNm} (h : nkey x = nkey y) : x = y := by
  obtain ⟨h1, h2⟩ := List.cons.inj (NestedKey.tup.inj h)
  have h2 := NestedKey.tup.inj (List.cons.inj h2).1
  have h1 := congrArg tl (NestedKey.text.inj h1)
  rw [tl_sx, tl_sx] at h1
  obtain ⟨a, ⟨b⟩⟩ := x
  obtain ⟨c, ⟨d⟩⟩ := y
  have e1 : a = c := h1
  have e2 : b = d := ntexts_inj b d h2
  rw [e1, e2]
theorem nkey_depth (x : KNm) : (nkey x).depth ≤ 8 := by
  have e : ∀ l : List Tx, NestedKey.depthAll (l.map fun t => NestedKey.text (sx t)) = 0 := fun l => by
    induction l with
    | nil => rfl
    | cons t l ih => rw [List.map_cons, NestedKey.depthAll, ih, NestedKey.depth]; rfl
  unfold nkey
  simp only [NestedKey.depth, NestedKey.depthAll, e]
  decide
noncomputable def NkAt (H : Hp) (x : KNm) (b : Addr) : Prop := ∃ b2, H b = some (.tup [.str (sx x.1), .ref b2]) ∧ H b2 = some (.tup (x.2.l.map fun t => V.str (sx t)))
theorem NkAt.mono {H H' : Hp} {x : KNm} {b : Addr} (s : ∀ c ys, H c = some (.tup ys) → H' c = some (.tup ys)) (h : NkAt H x b) : NkAt H' x b := by
  obtain ⟨b2, h1, h2⟩ := h
  exact ⟨b2, s _ _ h1, s _ _ h2⟩
theorem nall_texts {h : Heap} : ∀ (l : List Tx) (its : List Value), Vals (l.map fun t => V.str (sx t)) its → NestedAll h (l.map fun t => NestedKey.text (sx t)) its
  | [], _, .nil => .nil
  | t :: l, _, .cons r q => by
    obtain ⟨tk, rfl⟩ := (show ∃ t', _ = Value.str (sx t) t' from r)
    exact .cons (.text _ _) (nall_texts l _ q)
theorem nk_is {P : Program} {w : World} {H : Hp} {h : Heap} {x : KNm} {b : Addr} (ok : HOk P w H h) (e : NkAt H x b) : (nestedKind P w).is h (nkey x) b := by
  obtain ⟨b2, e1, e2⟩ := e
  obtain ⟨_, its, r, o, h1, h2, n, h3⟩ := (show ObjOk P w H h b (.tup [.str (sx x.1), .ref b2]) from ok b _ e1)
  obtain ⟨_, its2, r2, o2, k1, k2, n2, k3⟩ := (show ObjOk P w H h b2 (.tup (x.2.l.map fun t => V.str (sx t))) from ok b2 _ e2)
  refine ⟨.tup h1 h2 h3 ?_, nkey_depth x⟩
  cases r with
  | cons r1 r =>
    cases r with
    | cons r2' r =>
      cases r
      obtain ⟨tk, rfl⟩ := (show ∃ t', _ = Value.str (sx x.1) t' from r1)
      obtain rfl : _ = Value.ref b2 := r2'
      exact .cons (.text _ _) (.cons (.tup k1 k2 k3 (nall_texts _ _ (by simpa using r2))) .nil)
noncomputable abbrev NEnt := KNm × Addr × Int
noncomputable def NRel (p : NEnt) (q : NestedKey × Addr × Value) : Prop := q.1 = nkey p.1 ∧ q.2.1 = p.2.1 ∧ ∃ t, q.2.2 = Value.int p.2.2 t
noncomputable def dN (w : World) (a : Addr) (kvs : List NEnt) : HO := .ext fun h => kvs.length ≤ sizeLine ∧ (a == sysModules) = false ∧ ∃ xs : List (NestedKey × Addr × Value), Paired NRel kvs xs ∧
  ∃ o es ep, h.get? a = some o ∧ o.ExactDict ∧ o.data = .dict es ep ∧ es.toList = xs.map (fun x => (⟨x.1.hash w, .ref x.2.1, x.2.2⟩ : DictEntry)) ∧ (xs.map (·.1)).Nodup
structure DN (w : World) (H : Hp) (a : Addr) (kvs : List NEnt) : Prop where
  at_ : H a = some (dN w a kvs)
  ks : ∀ p ∈ kvs, NkAt H p.1 p.2.1
noncomputable def valN (kvs : List NEnt) (k : KNm) : Option Int := (kvs.find? fun p => decide (p.1 = k)).map (·.2.2)
noncomputable def putN (kvs : List NEnt) (k : KNm) (b : Addr) (n : Int) : List NEnt := if kvs.any (fun p => decide (p.1 = k)) then kvs.map (fun p => if p.1 = k then (p.1, p.2.1, n) else p) else kvs ++ [(k, b, n)]
theorem dn_of {P : Program} {w : World} {H : Hp} {h : Heap} {a : Addr} {kvs : List NEnt} (ok : HOk P w H h) (d : DN w H a kvs) : kvs.length ≤ sizeLine ∧ (a == sysModules) = false ∧
    ∃ xs, Paired NRel kvs xs ∧ h.DictOfH (nestedKind P w) a xs := by
  obtain ⟨⟨z, y, xs, r, o, es, ep, h1, h2, h3, h4, h5⟩, _, _⟩ := (show ObjOk P w H h a (dN w a kvs) from ok a _ d.at_)
  refine ⟨z, y, xs, r, o, es, ep, h1, h2, h3, h4, ?_, h5⟩
  have all : ∀ {l : List NEnt} {m : List (NestedKey × Addr × Value)}, Paired NRel l m → (∀ p ∈ l, NkAt H p.1 p.2.1) → ∀ x ∈ m, (nestedKind P w).is h x.1 x.2.1 := by
    intro l m q
    induction q with
    | nil => intro _ x hx; exact nomatch hx
    | @cons p q ps qs hq t ih =>
      intro hk x hx
      rcases List.mem_cons.mp hx with e | hx
      · subst e
        obtain ⟨e1, e2, _⟩ := hq
        rw [e1, e2]
        exact nk_is ok (hk p (List.mem_cons_self ..))
      · exact ih (fun p hp => hk p (List.mem_cons_of_mem _ hp)) x hx
  exact all r d.ks
theorem nrel_val {kvs : List NEnt} {xs : List (NestedKey × Addr × Value)} (r : Paired NRel kvs xs) (k : KNm) : match valN kvs k, atKey xs (nkey k) with
    | none, none => True
    | some n, some p => ∃ t, p.2 = Value.int n t
    | _, _ => False := by
  induction r with
  | nil => trivial
  | @cons p q ps qs h t ih =>
    obtain ⟨h1, h2, tk, h3⟩ := h
    by_cases e : p.1 = k
    · have e' : q.1 = nkey k := by rw [h1, e]
      have b : atKey (q :: qs) (nkey k) = some q.2 := by simp [atKey, List.find?_cons, e']
      have c : valN (p :: ps) k = some p.2.2 := by simp [valN, List.find?_cons, e]
      rw [b, c]; exact ⟨tk, h3⟩
    · have e' : ¬ q.1 = nkey k := fun z => e (nkey_inj (h1.symm.trans z))
      have b : atKey (q :: qs) (nkey k) = atKey qs (nkey k) := by simp [atKey, List.find?_cons, e']
      have c : valN (p :: ps) k = valN ps k := by simp [valN, List.find?_cons, e]
      rw [b, c]; exact ih
section
variable {X : Cx} {pins : List (Addr × Obj)} {σ : L2.St} {H : Hp} {s : Shared} {a b : Addr} {kvs : List NEnt} {k : KNm} {A : Around} {E : Value → Shared → Prop}
theorem dn_getItem {n : Int} {Q : Value → Shared → Prop} (hu : A.units + 9 < cLine) (I : Inv X pins σ H s) (d : DN X.w H a kvs) (hk : NkAt H k b) (hv : valN kvs k = some n) (h : ∀ t s', Inv X pins σ H s' → Q (.int n t) s') :
    wpAny (model X.prog X.w) A (getItem (.ref a) (.ref b)) Q E s := by
  obtain ⟨z, hd, xs, rel, dd⟩ := dn_of I.hok d
  have := nrel_val rel k
  rw [hv] at this
  cases hp : atKey xs (nkey k) with
  | none => rw [hp] at this; exact this.elim
  | some p =>
    rw [hp] at this
    obtain ⟨t, ht⟩ := this
    refine wpAny_getItem_heap (knd := nestedKind X.prog X.w) (by show _ + 8 < _; have : A.in1.units = A.units + 1 := rfl; omega) (nk_is I.hok hk) dd hp ?_
    rw [ht]
    exact h t _ (I.tok _)
theorem dn_isSome {xs : List (NestedKey × Addr × Value)} (rel : Paired NRel kvs xs) : (atKey xs (nkey k)).isSome = (valN kvs k).isSome := by
  have := nrel_val rel k
  cases hv : valN kvs k <;> cases hp : atKey xs (nkey k) <;> rw [hv, hp] at this <;> first | rfl | exact this.elim
theorem dn_in {Q : Value → Shared → Prop} (hu : A.units + 9 < cLine) (I : Inv X pins σ H s) (d : DN X.w H a kvs) (hk : NkAt H k b) (h : ∀ s', Inv X pins σ H s' → Q (.bool (valN kvs k).isSome) s') :
    wpAny (model X.prog X.w) A (compareOp .In (.ref b) (.ref a)) Q E s := by
  obtain ⟨z, hd, xs, rel, dd⟩ := dn_of I.hok d
  refine wpAny_in_heap (knd := nestedKind X.prog X.w) (by show _ + 8 < _; have : A.in1.units = A.units + 1 := rfl; omega) (nk_is I.hok hk) hd dd ?_
  rw [dn_isSome rel]
  exact h _ (I.tok _)
theorem dn_notIn {Q : Value → Shared → Prop} (hu : A.units + 9 < cLine) (I : Inv X pins σ H s) (d : DN X.w H a kvs) (hk : NkAt H k b) (h : ∀ s', Inv X pins σ H s' → Q (.bool (!(valN kvs k).isSome)) s') :
    wpAny (model X.prog X.w) A (compareOp .NotIn (.ref b) (.ref a)) Q E s := by
  obtain ⟨z, hd, xs, rel, dd⟩ := dn_of I.hok d
  refine wpAny_notIn_heap (knd := nestedKind X.prog X.w) (by show _ + 8 < _; have : A.in1.units = A.units + 1 := rfl; omega) (nk_is I.hok hk) hd dd ?_
  rw [dn_isSome rel]
  exact h _ (I.tok _)
theorem nrel_repl {kvs : List NEnt} {xs : List (NestedKey × Addr × Value)} (r : Paired NRel kvs xs) (k : KNm) (n : Int) (t : Tok) : Paired NRel (kvs.map fun p => if p.1 = k then (p.1, p.2.1, n) else p) (xs.map (putAt (nkey k) (Value.int n t))) := by
  induction r with
  | nil => exact .nil
  | @cons p q ps qs h u ih =>
    rw [List.map_cons, List.map_cons]
    refine .cons ?_ ih
    obtain ⟨h1, h2, h3⟩ := h
    unfold putAt
    by_cases e : p.1 = k
    · rw [if_pos e, if_pos (by rw [h1, e])]; exact ⟨h1, h2, t, rfl⟩
    · rw [if_neg e, if_neg fun z => e (nkey_inj (h1.symm.trans z))]; exact ⟨h1, h2, h3⟩
theorem valN_any (kvs : List NEnt) (k : KNm) : (kvs.any fun p => decide (p.1 = k)) = (valN kvs k).isSome := by
  unfold valN
  rw [Option.isSome_map]
  induction kvs with
  | nil => rfl
  | cons p ps ih =>
    rw [List.any_cons, List.find?_cons]
    by_cases e : p.1 = k
    · rw [decide_eq_true e]; rfl
    · rw [decide_eq_false e]; exact ih
theorem nrel_put {kvs : List NEnt} {xs : List (NestedKey × Addr × Value)} (r : Paired NRel kvs xs) (k : KNm) (b : Addr) (n : Int) (t : Tok) : Paired NRel (putN kvs k b n) (storedH xs (nkey k) b (Value.int n t)) := by
  unfold putN storedH
  rw [valN_any, ← dn_isSome r]
  by_cases q : (atKey xs (nkey k)).isSome = true
  · rw [if_pos q, if_pos q]; exact nrel_repl r k n t
  · rw [if_neg q, if_neg q]; exact Paired.snoc r ⟨rfl, rfl, t, rfl⟩
theorem putN_len (kvs : List NEnt) (k : KNm) (b : Addr) (n : Int) : (putN kvs k b n).length ≤ kvs.length + 1 := by
  unfold putN
  split
  · rw [List.length_map]; omega
  · rw [List.length_append]; exact Nat.le_refl _
theorem putN_ks {H : Hp} {kvs : List NEnt} {k : KNm} {b : Addr} {n : Int} (h : ∀ p ∈ kvs, NkAt H p.1 p.2.1) (hk : NkAt H k b) : ∀ p ∈ putN kvs k b n, NkAt H p.1 p.2.1 := fun p hp => by
  unfold putN at hp
  split at hp
  · obtain ⟨q, hq, rfl⟩ := List.mem_map.mp hp
    split
    · exact h q hq
    · exact h q hq
  · rcases List.mem_append.mp hp with hp | hp
    · exact h p hp
    · rw [List.mem_singleton.mp hp]; exact hk
theorem dn_setItem {n : Int} {r : Value} {Q : Unit → Shared → Prop} (hu : A.units + 9 < cLine) (I : Inv X pins σ H s) (d : DN X.w H a kvs) (hk : NkAt H k b) (hl : kvs.length < sizeLine) (rv : RelV (.int n) r)
    (h : ∀ s', Inv X pins σ (upd H a (dN X.w a (putN kvs k b n))) s' → Q () s') : wpAny (model X.prog X.w) A (setItem (.ref a) (.ref b) r) Q E s := by
  obtain ⟨t, rfl⟩ := (show ∃ t, r = Value.int n t from rv)
  obtain ⟨z, hd, xs, rel, dd⟩ := dn_of I.hok d
  have hz : xs.length ≤ sizeLine := by rw [← Paired.length rel]; exact z
  refine wpAny_setItem_heap (knd := nestedKind X.prog X.w) (hsz := hz) (by show _ + 8 < _; have : A.in1.units = A.units + 1 := rfl; omega) (nk_is I.hok hk) dd fun h' dd' hs => h _ ?_
  obtain ⟨q, es, ep, hq, h2, h3, h4, _, h5⟩ := dd'
  refine d_write I (by rw [d.at_]; exact True.intro) hs ⟨q, hq⟩ ⟨⟨by have := putN_len kvs k b n; omega, hd, _, nrel_put rel k b n t, q, es, ep, hq, h2, h3, h4, h5⟩, ⟨q, hq⟩, fun h1 h2' p1 same => ?_⟩
  obtain ⟨z1, z2, xs1, r1, o1, es1, ep1, g1, g2, g3, g4, g5⟩ := p1
  exact ⟨z1, z2, xs1, r1, o1, es1, ep1, same _ g1, g2, g3, g4, g5⟩
end
section
variable {X : Cx} {o i e value : Expr} {pos pos' : Pos} {td ty tv : TE}
theorem pe_dgetN (hu : X.A.units + 9 < cLine) (ho : PE X o td) (hi : PE X i ty) (hs : NoSl i) : PE X (.Subscript o i pos) (fun σ H Q => td σ H fun x H1 => ty σ H1 fun y H2 => ∃ a b kvs k n, x = .ref a ∧ y = .ref b ∧ DN X.w H2 a kvs ∧ NkAt H2 k b ∧ valN kvs k = some n ∧ Q (.int n) H2) := by
  refine ⟨fun pins s σ H Q I h => ?_⟩
  refine subD_of PySem.F.slot_dict_getitem.lookup hs (thn (ho.run pins s σ H _ I h) fun u s1 ⟨x, H1, I1, rx, q1⟩ => thn (hi.run pins s1 σ H1 _ I1 q1) fun iv s2 ⟨y, H2, I2, ry, a, b, kvs, k, n, ex, ey, d, hk, hv, q2⟩ => ?_)
  subst ex ey
  obtain rfl : u = Value.ref a := rx
  obtain rfl : iv = Value.ref b := ry
  obtain ⟨_, _, xs, _, dd⟩ := dn_of I2.hok d
  exact ⟨dd.typeIs, dn_getItem hu I2 d hk hv fun t s3 I3 => ⟨.int n, H2, I3, ⟨t, rfl⟩, q2⟩⟩
theorem ps_dputN (hu : X.A.units + 9 < cLine) (ho : PE X o td) (hi : PE X i ty) (hv : PE X value tv) (hs : swapsWith value (some (.Subscript o i pos')) pos.line X.env = pure false) :
    PS X (.Assign [.Subscript o i pos'] value pos) (fun D σ H => tv σ H fun v H1 => td σ H1 fun x H2 => ty σ H2 fun y H3 => ∃ a b kvs k n, x = .ref a ∧ y = .ref b ∧ v = .int n ∧ DN X.w H3 a kvs ∧ NkAt H3 k b ∧ kvs.length < sizeLine ∧ D.nx σ (upd H3 a (dN X.w a (putN kvs k b n)))) := by
  refine ⟨fun pins s σ H D I h => ?_⟩
  refine wpAny_Assign_Subscript (thn (hv.run pins s σ H _ I h) fun r s1 ⟨v, H1, I1, rv, q1⟩ => thn (ho.run pins s1 σ H1 _ I1 q1) fun u s2 ⟨x, H2, I2, rx, q2⟩ => thn (hi.run pins s2 σ H2 _ I2 q2) fun iv s3 ⟨y, H3, I3, ry, a, b, kvs, k, n, ex, ey, ev, d, hk, hl, q3⟩ => ?_) hs
  subst ex ey ev
  obtain rfl : u = Value.ref a := rx
  obtain rfl : iv = Value.ref b := ry
  exact dn_setItem hu I3 d hk hl rv fun s4 I4 => ⟨σ, _, I4, q3⟩
theorem dn_empty {P : Program} {w : World} {H : Hp} (h : Heap) (hb : sysModules < h.objs.size) : ObjOk P w H (h.push { cls := .type "dict", data := .dict #[] }) h.objs.size (dN w h.objs.size []) :=
  ⟨⟨Nat.zero_le _, beq_eq_false_iff_ne.mpr (Ne.symm (Nat.ne_of_lt hb)), [], .nil, _, #[], 0, Heap.get?_push_size _ rfl, ⟨rfl, rfl, rfl⟩, rfl, rfl, List.nodup_nil⟩, ⟨_, Heap.get?_push_size _ rfl⟩, fun h1 h2 p1 same => by
    obtain ⟨z1, z2, xs1, r1, o1, es1, ep1, g1, g2, g3, g4, g5⟩ := p1
    exact ⟨z1, z2, xs1, r1, o1, es1, ep1, same _ g1, g2, g3, g4, g5⟩⟩
theorem pe_dnewN : PE X (.Dict [] [] pos) (fun _ H Q => ∀ p, H p = none → Q (.ref p) (upd H p (dN X.w p []))) := ⟨fun pins s σ H Q I h =>
  wpAny_Dict_empty ⟨.ref s.heap.objs.size, _, I.laid (a := s.heap.objs.size) (o := dN X.w s.heap.objs.size []) (t' := s.toks) (fun _ _ q => Heap.get?_push_of_some _ q) (Nat.le_refl _) (dn_empty s.heap I.big), rfl, h _ (I.hok.fresh (Nat.le_refl _))⟩⟩
end
structure NDic where
  w : World
  l : List (KNm × Int)
noncomputable def NEnts (kvs : List NEnt) (l : List (KNm × Int)) : Prop := kvs.map (fun p => (p.1, p.2.2)) = l
noncomputable instance repNDic : Rep NDic := ⟨fun _ F v x => ∃ a kvs, v = .ref a ∧ DN x.w F a kvs ∧ NEnts kvs x.l, fun s ⟨a, kvs, e, d, h⟩ => ⟨a, kvs, e, ⟨s _ _ d.at_, fun p hp => (d.ks p hp).mono fun c ys z => s _ _ z⟩, h⟩⟩
theorem nkey_rep {K : PySem.W.Frag} {F : Hp} {v : V} {x : KNm} (h : (inferInstance : Rep KNm).rp K F v x) : ∃ b, v = .ref b ∧ NkAt F x b := by
  obtain ⟨b, u, w, e, hb, h1, h2⟩ := h
  obtain ⟨b2, vs, e2, hb2, pr⟩ := h2
  have h1 : u = .str (sx x.1) := h1
  subst h1 e2
  have := pd_strs pr
  subst this
  exact ⟨b, e, b2, hb, hb2⟩
theorem ents_val {kvs : List NEnt} {l : List (KNm × Int)} (h : NEnts kvs l) (k : KNm) : valN kvs k = look l k := by
  unfold NEnts at h
  subst h
  unfold valN
  induction kvs with
  | nil => rfl
  | cons p ps ih =>
    rw [List.find?_cons, List.map_cons]
    by_cases e : p.1 = k
    · rw [decide_eq_true e, look_pos (p := (p.1, p.2.2)) e]; rfl
    · rw [decide_eq_false e, look_neg (p := (p.1, p.2.2)) e]; exact ih
theorem ents_put {kvs : List NEnt} {l : List (KNm × Int)} (h : NEnts kvs l) (k : KNm) (b : Addr) (n : Int) : NEnts (putN kvs k b n) (put l k n) := by
  have ha : (kvs.any fun p => decide (p.1 = k)) = (look l k).isSome := by rw [valN_any, ents_val h]
  unfold NEnts at h ⊢
  unfold putN put
  rw [ha, look_any]
  by_cases q : (look l k).isSome = true
  · rw [if_pos q, if_pos q, ← h, List.map_map, List.map_map]
    refine List.map_congr_left fun p _ => ?_
    show ((if p.1 = k then (p.1, p.2.1, n) else p).1, (if p.1 = k then (p.1, p.2.1, n) else p).2.2) = if p.1 = k then (p.1, n) else (p.1, p.2.2)
    split <;> rfl
  · rw [if_neg q, if_neg q, List.map_append, h]; rfl
noncomputable def ownN (w : World) (a : Addr) (l : List (KNm × Int)) : Own where
  fp := [a]
  root := .ref a
  ok := fun _ F H v => v = .ref a ∧ ∃ kvs, H a = some (dN w a kvs) ∧ (∀ p ∈ kvs, NkAt F p.1 p.2.1) ∧ NEnts kvs l
  stay := fun s k ⟨e, kvs, h, ks, p⟩ => ⟨e, kvs, k a (List.mem_singleton.mpr rfl) _ h, fun q hq => (ks q hq).mono fun c ys z => s _ _ z, p⟩
  there := fun ⟨_, kvs, h, _⟩ b hb z => by rw [List.mem_singleton.mp hb, h] at z; cases z
  rt := fun h => h.1
theorem frozN {w : World} {a : Addr} {l : List (KNm × Int)} : Froz (ownN w a l) (NDic.mk w l) := fun {K F H v} s ⟨e, kvs, h, ks, p⟩ f => ⟨a, kvs, e, ⟨(frz_in (ps := [a]) (List.mem_singleton.mpr rfl)).trans h, fun q hq => (ks q hq).mono fun c ys z => frz_le f _ _ z⟩, p⟩
section
variable {X : Cx} {Γ : List Slot} {pos p p2 : Pos} {e a b c : Expr} {es : List Expr} {E : SE} {rest : List Stmt}
theorem o_inN {x : KNm} {d : NDic} (hu : X.A.units + 9 < cLine) (hw : d.w = X.w) : OB X (compareOp .In) x d (look d.l x).isSome := fun F H v u Q s r1 r2 q pins s' σ va vb I rv1 rv2 => by
  obtain ⟨k, rfl, hk⟩ := nkey_rep r1
  obtain ⟨ad, kvs, rfl, dd, ee⟩ := r2
  obtain rfl : va = Value.ref k := rv1
  obtain rfl : vb = Value.ref ad := rv2
  rw [hw] at dd
  refine dn_in hu I ⟨s _ _ dd.at_, fun p hp => (dd.ks p hp).mono fun c ys z => s _ _ z⟩ (hk.mono fun c ys z => s _ _ z) fun s1 I1 => ⟨.bl (valN kvs x).isSome, H, I1, rfl, ?_⟩
  exact q _ F H (Ext.refl s) (by rw [ents_val ee]; rfl)
theorem o_notInN {x : KNm} {d : NDic} (hu : X.A.units + 9 < cLine) (hw : d.w = X.w) : OB X (compareOp .NotIn) x d (!(look d.l x).isSome) := fun F H v u Q s r1 r2 q pins s' σ va vb I rv1 rv2 => by
  obtain ⟨k, rfl, hk⟩ := nkey_rep r1
  obtain ⟨ad, kvs, rfl, dd, ee⟩ := r2
  obtain rfl : va = Value.ref k := rv1
  obtain rfl : vb = Value.ref ad := rv2
  rw [hw] at dd
  refine dn_notIn hu I ⟨s _ _ dd.at_, fun p hp => (dd.ks p hp).mono fun c ys z => s _ _ z⟩ (hk.mono fun c ys z => s _ _ z) fun s1 I1 => ⟨.bl (!(valN kvs x).isSome), H, I1, rfl, ?_⟩
  exact q _ F H (Ext.refl s) (by rw [ents_val ee]; rfl)
theorem ev_dgetN {d : NDic} {x : KNm} {n : Int} (hu : X.A.units + 9 < cLine) (hw : d.w = X.w) (ha : EV X Γ a d) (hb : EV X Γ b x) (hy : look d.l x = some n) (hp : autoParam (NoSl b) Tw.aIR2) : EV X Γ (.Subscript a b pos) n := fun B F H σ Q L q =>
  WE.of (pe_dgetN hu peW peW hp) (ha B F H σ _ L fun v F1 H1 e1 r1 => hb B F1 H1 σ _ (L.step e1) fun u F2 H2 e2 r2 => by
    obtain ⟨ad, kvs, rfl, dd, ee⟩ := r1
    obtain ⟨k, rfl, hk⟩ := nkey_rep r2
    rw [hw] at dd
    have s2 := (L.step (e1.trans e2)).same
    exact ⟨ad, k, kvs, x, n, rfl, rfl, ⟨s2 _ _ (e2.ff _ _ dd.at_), fun p hp => (dd.ks p hp).mono fun c ys z => s2 _ _ (e2.ff _ _ z)⟩, hk.mono fun c ys z => s2 _ _ z, by rw [ents_val ee]; exact hy, q (.int n) F2 H2 (e1.trans e2) rfl⟩)
theorem exo_dictN : EX X Γ (.Dict [] [] pos) (fun r => r = .own fun o => ∃ a, o = ownN X.w a []) := fun B F H σ Q L q =>
  WE.of pe_dnewN fun p hp => q _ (.ref p) F _ rfl (Ext.apart L.same hp) ⟨ownN X.w p [], ⟨p, rfl⟩, fun b hb => by rw [List.mem_singleton.mp hb]; exact ⟨hp, L.same.free hp⟩, rfl, [], upd_same, fun _ h => (nomatch h), rfl⟩
theorem st_setDN (k : Nat) {n : Str} {p3 spos : Pos} (hr : ∀ ad, ST X rest (Γ.set k (.own (ownN X.w ad []))) E) (hN : X.N.Nodup) (hi : autoParam (X.N[k]? = some n) aRfl) (hx : autoParam (L2.Loc X.env.scope n) aLoc)
    (hs : autoParam (swapsWith (.Dict [] [] pos) (some (.Name n p3)) spos.line X.env = pure false) aRfl) (hf : autoParam (X.fn n = true ∨ X.env.scope.names.lookup n = some .local) Tw.aFn) : ST X (.Assign [.Name n p3] (.Dict [] [] pos) spos :: rest) Γ E :=
  st_setO k exo_dictN (fun o ⟨ad, e⟩ => e ▸ hr ad) hN hi hx hs hf
theorem st_dputN (hu : X.A.units + 9 < cLine) (m : Nat) {n : Str} {ad : Addr} {l : List (KNm × Int)} {x : KNm} {y : Int} {sp : Pos} (he : EV X Γ e y) (hi : EV X Γ a x) (hz : l.length < sizeLine) (hr : ST X rest (Γ.set m (.own (ownN X.w ad (put l x y)))) E) (hgm : autoParam (Γ[m]? = some (.own (ownN X.w ad l))) aRfl) (hN : autoParam (X.N[m]? = some n) aRfl)
    (hv : autoParam (Vis X.env.scope n) aVis) (hdd : autoParam ((n == ("__debug__" : Str)) = false) aDec) (hcd : autoParam ((n == ("__classdict__" : Str)) = false) aDec)
    (hs : autoParam (swapsWith e (some (.Subscript (.Name n p) a sp)) pos.line X.env = pure false) aRfl) :
    ST X (.Assign [.Subscript (.Name n p) a sp] e pos :: rest) Γ E := fun B F H σ D L ed => by
  obtain ⟨v0, ea, ⟨rfl, _⟩, _⟩ := slot_own L hgm
  refine WP.cons (ps_dputN hu (pe_var hN hv hdd hcd) peW peW hs) (he B F H σ _ L fun v F1 H1 e1 r1 => ⟨_, ea, hi B F1 H1 σ _ (L.step e1) fun u F2 H2 e2 r2 => ?_⟩)
  have L2 := L.step (e1.trans e2)
  obtain ⟨v2, ev2, ⟨_, kvs, ha, ks, ee⟩, _⟩ := slot_own L2 hgm
  obtain ⟨k, rfl, hk⟩ := nkey_rep r2
  have r1 : v = .int y := r1
  subst r1
  have hl : kvs.length < sizeLine := by
    have := congrArg List.length ee
    rw [List.length_map] at this
    omega
  have s2 := L2.same
  refine ⟨ad, k, kvs, x, y, rfl, rfl, rfl, ⟨ha, fun p hp => (ks p hp).mono fun c ys z => s2 _ _ z⟩, hk.mono fun c ys z => s2 _ _ z, hl, hr B F2 _ σ D (L2.updO hgm ea (fun b w hb q => ?_) (fun b hb => ?_) (fun b hb => .inl hb) ⟨rfl, _, upd_same, putN_ks ks hk, ents_put ee x k y⟩) (ed.weak (e1.trans e2).ff)⟩
  · rw [upd_ne fun z => hb (List.mem_singleton.mpr z)]; exact q
  · rw [List.mem_singleton.mp hb, upd_same]; exact fun z => nomatch z
end
end Tw
namespace Law
open PySem PySem.Spec PyProof.Rows L2 TL Tw
noncomputable def topS (i : Nat) : Stmt := PySem.Challenge.pw_quiltlaw_k40_pictures_by_rounds.main.body.getD i (.Pass ⟨0, 0, 0, 0⟩)
noncomputable def clsS (i j : Nat) : Stmt := clsBody (topS i) j
noncomputable abbrev s_size_of : Stmt := topS 9
noncomputable abbrev N_size_of : List Str := ["picture"]
theorem sc_size_of : FnScope N_size_of ["picture"] (defScope s_size_of) := ⟨rfl, rfl, rfl, by decide +kernel, rfl, by decide +kernel, by decide +kernel⟩
noncomputable abbrev s_shown : Stmt := topS 10
noncomputable abbrev N_shown : List Str := ["picture"]
theorem sc_shown : FnScope N_shown ["picture"] (defScope s_shown) := ⟨rfl, rfl, rfl, by decide +kernel, rfl, by decide +kernel, by decide +kernel⟩
noncomputable abbrev s_beside : Stmt := topS 11
noncomputable abbrev N_beside : List Str := ["one", "other", "left", "right"]
theorem sc_beside : FnScope N_beside ["one", "other"] (defScope s_beside) := ⟨rfl, rfl, rfl, by decide +kernel, rfl, by decide +kernel, by decide +kernel⟩
noncomputable abbrev bk_beside := @L2.blkOk_by N_beside (defScope s_beside)
noncomputable abbrev s_above : Stmt := topS 12
noncomputable abbrev N_above : List Str := ["one", "other"]
theorem sc_above : FnScope N_above ["one", "other"] (defScope s_above) := ⟨rfl, rfl, rfl, by decide +kernel, rfl, by decide +kernel, by decide +kernel⟩
noncomputable abbrev s_quarter : Stmt := topS 15
noncomputable abbrev N_quarter : List Str := ["picture", "rows", "column", "row"]
theorem sc_quarter : FnScope N_quarter ["picture"] (defScope s_quarter) := ⟨rfl, rfl, rfl, by decide +kernel, rfl, by decide +kernel, by decide +kernel⟩
noncomputable abbrev bk_quarter := @L2.blkOk_by N_quarter (defScope s_quarter)
noncomputable abbrev s_mirrored : Stmt := topS 16
noncomputable abbrev N_mirrored : List Str := ["picture", "row"]
theorem sc_mirrored : FnScope N_mirrored ["picture"] (defScope s_mirrored) := ⟨rfl, rfl, rfl, by decide +kernel, rfl, by decide +kernel, by decide +kernel⟩
noncomputable abbrev bk_mirrored := @L2.blkOk_by N_mirrored (defScope s_mirrored)
noncomputable abbrev s_turned : Stmt := topS 17
noncomputable abbrev N_turned : List Str := ["picture", "t", "seen", "turn"]
theorem sc_turned : FnScope N_turned ["picture", "t"] (defScope s_turned) := ⟨rfl, rfl, rfl, by decide +kernel, rfl, by decide +kernel, by decide +kernel⟩
noncomputable abbrev s_after : Stmt := topS 18
noncomputable abbrev s_back : Stmt := topS 19
noncomputable abbrev s_is_name : Stmt := topS 25
noncomputable abbrev N_is_name : List Str := ["text", "sign"]
theorem sc_is_name : FnScope N_is_name ["text"] (defScope s_is_name) := ⟨rfl, rfl, rfl, by decide +kernel, rfl, by decide +kernel, by decide +kernel⟩
noncomputable abbrev bk_is_name := @L2.blkOk_by N_is_name (defScope s_is_name)
noncomputable abbrev s_asked_name : Stmt := topS 26
noncomputable abbrev N_asked_name : List Str := ["text"]
theorem sc_asked_name : FnScope N_asked_name ["text"] (defScope s_asked_name) := ⟨rfl, rfl, rfl, by decide +kernel, rfl, by decide +kernel, by decide +kernel⟩
noncomputable abbrev s_turned_pair : Stmt := topS 29
noncomputable abbrev s_note : Stmt := topS 35
noncomputable abbrev N_note : List Str := ["found", "name", "picture", "cost", "own", "text"]
theorem sc_note : FnScope N_note ["found", "name", "picture", "cost"] (defScope s_note) := ⟨rfl, rfl, rfl, by decide +kernel, rfl, by decide +kernel, by decide +kernel⟩
noncomputable abbrev s_made_of : Stmt := topS 36
noncomputable abbrev N_made_of : List Str := ["found", "name"]
theorem sc_made_of : FnScope N_made_of ["found", "name"] (defScope s_made_of) := ⟨rfl, rfl, rfl, by decide +kernel, rfl, by decide +kernel, by decide +kernel⟩
noncomputable abbrev s_cells_of : Stmt := topS 38
noncomputable abbrev N_cells_of : List Str := ["size"]
theorem sc_cells_of : FnScope N_cells_of ["size"] (defScope s_cells_of) := ⟨rfl, rfl, rfl, by decide +kernel, rfl, by decide +kernel, by decide +kernel⟩
noncomputable abbrev s_sizes_within : Stmt := topS 39
noncomputable abbrev N_sizes_within : List Str := ["rows", "columns", "low", "high", "found", "r", "c"]
theorem sc_sizes_within : FnScope N_sizes_within ["rows", "columns"] (defScope s_sizes_within) := ⟨rfl, rfl, rfl, by decide +kernel, rfl, by decide +kernel, by decide +kernel⟩
noncomputable abbrev bk_sizes_within := @L2.blkOk_by N_sizes_within (defScope s_sizes_within)
noncomputable abbrev s_picture_of : Stmt := topS 40
noncomputable abbrev N_picture_of : List Str := ["pair"]
theorem sc_picture_of : FnScope N_picture_of ["pair"] (defScope s_picture_of) := ⟨rfl, rfl, rfl, by decide +kernel, rfl, by decide +kernel, by decide +kernel⟩
noncomputable abbrev s_pictures_of : Stmt := topS 41
noncomputable abbrev N_pictures_of : List Str := ["grammar", "name", "rows", "columns", "many", "cell", "sizes", "size", "told", "picture", "cost"]
theorem sc_pictures_of : FnScope N_pictures_of ["grammar", "name", "rows", "columns"] (defScope s_pictures_of) := ⟨rfl, rfl, rfl, by decide +kernel, rfl, by decide +kernel, by decide +kernel⟩
noncomputable abbrev bk_pictures_of := @L2.blkOk_by N_pictures_of (defScope s_pictures_of)
noncomputable abbrev s_are_signs : Stmt := topS 46
noncomputable abbrev N_are_signs : List Str := ["text", "sign"]
theorem sc_are_signs : FnScope N_are_signs ["text"] (defScope s_are_signs) := ⟨rfl, rfl, rfl, by decide +kernel, rfl, by decide +kernel, by decide +kernel⟩
noncomputable abbrev bk_are_signs := @L2.blkOk_by N_are_signs (defScope s_are_signs)
noncomputable abbrev s_names_met : Stmt := topS 47
noncomputable abbrev N_names_met : List Str := ["start", "rules", "met", "rule", "name"]
theorem sc_names_met : FnScope N_names_met ["start", "rules"] (defScope s_names_met) := ⟨rfl, rfl, rfl, by decide +kernel, rfl, by decide +kernel, by decide +kernel⟩
noncomputable abbrev s_asked_rules : Stmt := topS 48
noncomputable abbrev N_asked_rules : List Str := ["signs", "rules", "k", "rule"]
theorem sc_asked_rules : FnScope N_asked_rules ["signs", "rules"] (defScope s_asked_rules) := ⟨rfl, rfl, rfl, by decide +kernel, rfl, by decide +kernel, by decide +kernel⟩
noncomputable abbrev s_law_cell : Stmt := topS 51
noncomputable abbrev N_law_cell : List Str := ["_law_script", "_law_k", "_law_cell_here", "_law_mixed"]
theorem sc_law_cell : FnScope N_law_cell ["_law_script", "_law_k"] (defScope s_law_cell) := ⟨rfl, rfl, rfl, by decide +kernel, rfl, by decide +kernel, by decide +kernel⟩
noncomputable abbrev s_law_cells : Stmt := topS 52
noncomputable abbrev N_law_cells : List Str := ["_law_script", "_law_begin", "_law_most", "_law_many", "_law_k"]
theorem sc_law_cells : FnScope N_law_cells ["_law_script", "_law_begin", "_law_most"] (defScope s_law_cells) := ⟨rfl, rfl, rfl, by decide +kernel, rfl, by decide +kernel, by decide +kernel⟩
noncomputable abbrev bk_law_cells := @L2.blkOk_by N_law_cells (defScope s_law_cells)
noncomputable abbrev s_law_signs : Stmt := topS 54
noncomputable abbrev N_law_signs : List Str := ["_law_cell_here", "_law_most", "_law_letters", "_law_step", "_law_k"]
theorem sc_law_signs : FnScope N_law_signs ["_law_cell_here", "_law_most"] (defScope s_law_signs) := ⟨rfl, rfl, rfl, by decide +kernel, rfl, by decide +kernel, by decide +kernel⟩
noncomputable abbrev bk_law_signs := @L2.blkOk_by N_law_signs (defScope s_law_signs)
noncomputable abbrev s_law_names : Stmt := topS 55
noncomputable abbrev N_law_names : List Str := ["_law_cell_here", "_law_letters", "_law_size", "_law_at", "_law_step", "_law_base", "_law_names_here", "_law_k", "_law_letter"]
theorem sc_law_names : FnScope N_law_names ["_law_cell_here"] (defScope s_law_names) := ⟨rfl, rfl, rfl, by decide +kernel, rfl, by decide +kernel, by decide +kernel⟩
noncomputable abbrev bk_law_names := @L2.blkOk_by N_law_names (defScope s_law_names)
noncomputable abbrev s_law_rule : Stmt := topS 56
noncomputable abbrev N_law_rule : List Str := ["_law_rule_here"]
theorem sc_law_rule : FnScope N_law_rule ["_law_rule_here"] (defScope s_law_rule) := ⟨rfl, rfl, rfl, by decide +kernel, rfl, by decide +kernel, by decide +kernel⟩
noncomputable abbrev s_law_grammar : Stmt := topS 57
noncomputable abbrev N_law_grammar : List Str := ["_law_signs_here", "_law_start", "_law_rules", "_law_rule_here"]
theorem sc_law_grammar : FnScope N_law_grammar ["_law_signs_here", "_law_start", "_law_rules"] (defScope s_law_grammar) := ⟨rfl, rfl, rfl, by decide +kernel, rfl, by decide +kernel, by decide +kernel⟩
noncomputable abbrev bk_law_grammar := @L2.blkOk_by N_law_grammar (defScope s_law_grammar)
noncomputable abbrev s_law_turned : Stmt := topS 58
noncomputable abbrev N_law_turned : List Str := ["_law_picture", "_law_t", "_law_turn", "_law_rows", "_law_column", "_law_row"]
theorem sc_law_turned : FnScope N_law_turned ["_law_picture", "_law_t"] (defScope s_law_turned) := ⟨rfl, rfl, rfl, by decide +kernel, rfl, by decide +kernel, by decide +kernel⟩
noncomputable abbrev bk_law_turned := @L2.blkOk_by N_law_turned (defScope s_law_turned)
noncomputable abbrev s_law_drawn : Stmt := topS 60
noncomputable abbrev N_law_drawn : List Str := ["_law_cell_here", "_law_signs_here", "_law_names_here", "_law_kind", "_law_name", "_law_cost", "_law_one", "_law_rest"]
theorem sc_law_drawn : FnScope N_law_drawn ["_law_cell_here", "_law_signs_here", "_law_names_here"] (defScope s_law_drawn) := ⟨rfl, rfl, rfl, by decide +kernel, rfl, by decide +kernel, by decide +kernel⟩
noncomputable abbrev s_law_all : Stmt := topS 61
noncomputable abbrev N_law_all : List Str := ["_law_signs_here", "_law_rows", "_law_columns", "_law_texts", "_law_cell_here", "_law_longer", "_law_text", "_law_found", "_law_sign", "_law_row"]
theorem sc_law_all : FnScope N_law_all ["_law_signs_here", "_law_rows", "_law_columns"] (defScope s_law_all) := ⟨rfl, rfl, rfl, by decide +kernel, rfl, by decide +kernel, by decide +kernel⟩
noncomputable abbrev bk_law_all := @L2.blkOk_by N_law_all (defScope s_law_all)
noncomputable abbrev s_law_pair : Stmt := topS 62
noncomputable abbrev N_law_pair : List Str := ["_law_costs_here", "_law_rule_here", "_law_picture", "_law_best", "_law_many", "_law_at", "_law_one", "_law_other", "_law_cost", "_law_row"]
theorem sc_law_pair : FnScope N_law_pair ["_law_costs_here", "_law_rule_here", "_law_picture"] (defScope s_law_pair) := ⟨rfl, rfl, rfl, by decide +kernel, rfl, by decide +kernel, by decide +kernel⟩
noncomputable abbrev bk_law_pair := @L2.blkOk_by N_law_pair (defScope s_law_pair)
noncomputable abbrev s_law_comes : Stmt := topS 63
noncomputable abbrev N_law_comes : List Str := ["_law_costs_here", "_law_rule_here", "_law_picture", "_law_undo", "_law_key"]
theorem sc_law_comes : FnScope N_law_comes ["_law_costs_here", "_law_rule_here", "_law_picture"] (defScope s_law_comes) := ⟨rfl, rfl, rfl, by decide +kernel, rfl, by decide +kernel, by decide +kernel⟩
noncomputable abbrev s_law_costs : Stmt := topS 64
noncomputable abbrev N_law_costs : List Str := ["_law_rules", "_law_pictures", "_law_costs_here", "_law_going", "_law_rule_here", "_law_picture", "_law_cost", "_law_key"]
theorem sc_law_costs : FnScope N_law_costs ["_law_rules", "_law_pictures"] (defScope s_law_costs) := ⟨rfl, rfl, rfl, by decide +kernel, rfl, by decide +kernel, by decide +kernel⟩
noncomputable abbrev s_law : Stmt := topS 65
noncomputable abbrev N_law : List Str := ["_law_script", "_law_signs_here", "_law_names_here", "_law_rules", "_law_sizes", "_law_pictures", "_law_size", "_law_costs_here", "_law_grammar_here", "_law_first", "_law_other", "_law_name", "_law_due", "_law_picture", "_law_cell_here"]
theorem sc_law : FnScope N_law ["_law_script"] (defScope s_law) := ⟨rfl, rfl, rfl, by decide +kernel, rfl, by decide +kernel, by decide +kernel⟩
noncomputable abbrev bk_law := @L2.blkOk_by N_law (defScope s_law)
noncomputable abbrev s_Rule_init : Stmt := clsS 27 0
noncomputable abbrev N_Rule_init : List Str := ["self", "name", "cost"]
theorem sc_Rule_init : FnScope N_Rule_init ["self", "name", "cost"] (defScope s_Rule_init) := ⟨rfl, rfl, rfl, by decide +kernel, rfl, by decide +kernel, by decide +kernel⟩
noncomputable abbrev s_Rule_parts : Stmt := clsS 27 1
noncomputable abbrev N_Rule_parts : List Str := ["self"]
theorem sc_Rule_parts : FnScope N_Rule_parts ["self"] (defScope s_Rule_parts) := ⟨rfl, rfl, rfl, by decide +kernel, rfl, by decide +kernel, by decide +kernel⟩
noncomputable abbrev s_Rule_begun : Stmt := clsS 27 2
noncomputable abbrev s_CellRule_init : Stmt := clsS 28 0
noncomputable abbrev N_CellRule_init : List Str := ["self", "name", "cost", "sign"]
theorem sc_CellRule_init : FnScope N_CellRule_init ["self", "name", "cost", "sign"] (defScope s_CellRule_init) := ⟨rfl, rfl, rfl, by decide +kernel, rfl, by decide +kernel, by decide +kernel⟩
noncomputable abbrev s_CellRule_made : Stmt := clsS 28 1
noncomputable abbrev N_CellRule_made : List Str := ["self", "pictures"]
theorem sc_CellRule_made : FnScope N_CellRule_made ["self", "pictures"] (defScope s_CellRule_made) := ⟨rfl, rfl, rfl, by decide +kernel, rfl, by decide +kernel, by decide +kernel⟩
noncomputable abbrev s_CellRule_told : Stmt := clsS 28 4
noncomputable abbrev s_BesideRule_init : Stmt := clsS 30 0
noncomputable abbrev N_BesideRule_init : List Str := ["self", "name", "cost", "one", "other"]
theorem sc_BesideRule_init : FnScope N_BesideRule_init ["self", "name", "cost", "one", "other"] (defScope s_BesideRule_init) := ⟨rfl, rfl, rfl, by decide +kernel, rfl, by decide +kernel, by decide +kernel⟩
noncomputable abbrev s_BesideRule_parts : Stmt := clsS 30 1
noncomputable abbrev N_BesideRule_parts : List Str := ["self"]
theorem sc_BesideRule_parts : FnScope N_BesideRule_parts ["self"] (defScope s_BesideRule_parts) := ⟨rfl, rfl, rfl, by decide +kernel, rfl, by decide +kernel, by decide +kernel⟩
noncomputable abbrev s_BesideRule_made : Stmt := clsS 30 2
noncomputable abbrev N_BesideRule_made : List Str := ["self", "pictures"]
theorem sc_BesideRule_made : FnScope N_BesideRule_made ["self", "pictures"] (defScope s_BesideRule_made) := ⟨rfl, rfl, rfl, by decide +kernel, rfl, by decide +kernel, by decide +kernel⟩
noncomputable abbrev s_BesideRule_told : Stmt := clsS 30 5
noncomputable abbrev s_AboveRule_init : Stmt := clsS 31 0
noncomputable abbrev N_AboveRule_init : List Str := ["self", "name", "cost", "one", "other"]
theorem sc_AboveRule_init : FnScope N_AboveRule_init ["self", "name", "cost", "one", "other"] (defScope s_AboveRule_init) := ⟨rfl, rfl, rfl, by decide +kernel, rfl, by decide +kernel, by decide +kernel⟩
noncomputable abbrev s_AboveRule_parts : Stmt := clsS 31 1
noncomputable abbrev N_AboveRule_parts : List Str := ["self"]
theorem sc_AboveRule_parts : FnScope N_AboveRule_parts ["self"] (defScope s_AboveRule_parts) := ⟨rfl, rfl, rfl, by decide +kernel, rfl, by decide +kernel, by decide +kernel⟩
noncomputable abbrev s_AboveRule_made : Stmt := clsS 31 2
noncomputable abbrev N_AboveRule_made : List Str := ["self", "pictures"]
theorem sc_AboveRule_made : FnScope N_AboveRule_made ["self", "pictures"] (defScope s_AboveRule_made) := ⟨rfl, rfl, rfl, by decide +kernel, rfl, by decide +kernel, by decide +kernel⟩
noncomputable abbrev s_AboveRule_told : Stmt := clsS 31 5
noncomputable abbrev s_TurnRule_init : Stmt := clsS 32 0
noncomputable abbrev N_TurnRule_init : List Str := ["self", "name", "cost", "part", "turning"]
theorem sc_TurnRule_init : FnScope N_TurnRule_init ["self", "name", "cost", "part", "turning"] (defScope s_TurnRule_init) := ⟨rfl, rfl, rfl, by decide +kernel, rfl, by decide +kernel, by decide +kernel⟩
noncomputable abbrev s_TurnRule_parts : Stmt := clsS 32 1
noncomputable abbrev N_TurnRule_parts : List Str := ["self"]
theorem sc_TurnRule_parts : FnScope N_TurnRule_parts ["self"] (defScope s_TurnRule_parts) := ⟨rfl, rfl, rfl, by decide +kernel, rfl, by decide +kernel, by decide +kernel⟩
noncomputable abbrev s_TurnRule_made : Stmt := clsS 32 2
noncomputable abbrev N_TurnRule_made : List Str := ["self", "pictures"]
theorem sc_TurnRule_made : FnScope N_TurnRule_made ["self", "pictures"] (defScope s_TurnRule_made) := ⟨rfl, rfl, rfl, by decide +kernel, rfl, by decide +kernel, by decide +kernel⟩
noncomputable abbrev s_TurnRule_told : Stmt := clsS 32 5
noncomputable abbrev s_Sizes_init : Stmt := clsS 37 0
noncomputable abbrev N_Sizes_init : List Str := ["self", "grammar"]
theorem sc_Sizes_init : FnScope N_Sizes_init ["self", "grammar"] (defScope s_Sizes_init) := ⟨rfl, rfl, rfl, by decide +kernel, rfl, by decide +kernel, by decide +kernel⟩
noncomputable abbrev s_Sizes_put : Stmt := clsS 37 1
noncomputable abbrev N_Sizes_put : List Str := ["self", "found", "rule", "one", "other", "first", "cost", "second", "more"]
theorem sc_Sizes_put : FnScope N_Sizes_put ["self", "found", "rule", "one", "other"] (defScope s_Sizes_put) := ⟨rfl, rfl, rfl, by decide +kernel, rfl, by decide +kernel, by decide +kernel⟩
noncomputable abbrev s_Sizes_begun : Stmt := clsS 37 2
noncomputable abbrev N_Sizes_begun : List Str := ["self", "rows", "columns", "found", "rule", "at"]
theorem sc_Sizes_begun : FnScope N_Sizes_begun ["self", "rows", "columns"] (defScope s_Sizes_begun) := ⟨rfl, rfl, rfl, by decide +kernel, rfl, by decide +kernel, by decide +kernel⟩
noncomputable abbrev s_Sizes_turned_on : Stmt := clsS 37 3
noncomputable abbrev N_Sizes_turned_on : List Str := ["self", "both", "going", "rule", "found", "picture", "cost", "fresh"]
theorem sc_Sizes_turned_on : FnScope N_Sizes_turned_on ["self", "both"] (defScope s_Sizes_turned_on) := ⟨rfl, rfl, rfl, by decide +kernel, rfl, by decide +kernel, by decide +kernel⟩
noncomputable abbrev s_Sizes_fill : Stmt := clsS 37 4
noncomputable abbrev N_Sizes_fill : List Str := ["self", "rows", "columns", "both", "size", "found"]
theorem sc_Sizes_fill : FnScope N_Sizes_fill ["self", "rows", "columns"] (defScope s_Sizes_fill) := ⟨rfl, rfl, rfl, by decide +kernel, rfl, by decide +kernel, by decide +kernel⟩
noncomputable abbrev s_Grammar_init : Stmt := clsS 49 0
noncomputable abbrev N_Grammar_init : List Str := ["self", "signs", "start", "rules", "met"]
theorem sc_Grammar_init : FnScope N_Grammar_init ["self", "signs", "start", "rules"] (defScope s_Grammar_init) := ⟨rfl, rfl, rfl, by decide +kernel, rfl, by decide +kernel, by decide +kernel⟩
noncomputable abbrev s_Grammar_rules : Stmt := clsS 49 1
noncomputable abbrev N_Grammar_rules : List Str := ["self"]
theorem sc_Grammar_rules : FnScope N_Grammar_rules ["self"] (defScope s_Grammar_rules) := ⟨rfl, rfl, rfl, by decide +kernel, rfl, by decide +kernel, by decide +kernel⟩
noncomputable abbrev s_Grammar_numbers_of : Stmt := clsS 49 5
noncomputable abbrev N_Grammar_numbers_of : List Str := ["self", "name", "k", "rule"]
theorem sc_Grammar_numbers_of : FnScope N_Grammar_numbers_of ["self", "name"] (defScope s_Grammar_numbers_of) := ⟨rfl, rfl, rfl, by decide +kernel, rfl, by decide +kernel, by decide +kernel⟩
noncomputable abbrev bk_Grammar_numbers_of := @L2.blkOk_by N_Grammar_numbers_of (defScope s_Grammar_numbers_of)
noncomputable abbrev s_Grammar_told : Stmt := clsS 49 6
noncomputable abbrev s_NoGrammar_init : Stmt := clsS 4 0
noncomputable abbrev N_NoGrammar_init : List Str := ["self", "why"]
theorem sc_NoGrammar_init : FnScope N_NoGrammar_init ["self", "why"] (defScope s_NoGrammar_init) := ⟨rfl, rfl, rfl, by decide +kernel, rfl, by decide +kernel, by decide +kernel⟩
structure Txt (K : PySem.W.Frag) (mg : Str → Option Value) : Prop where
  b_ValueError : mg "ValueError" = none
  b_all : mg "all" = none
  b_bool : mg "bool" = none
  b_enumerate : mg "enumerate" = none
  b_int : mg "int" = none
  b_isinstance : mg "isinstance" = none
  b_len : mg "len" = none
  b_list : mg "list" = none
  b_max : mg "max" = none
  b_min : mg "min" = none
  b_range : mg "range" = none
  b_reversed : mg "reversed" = none
  b_set : mg "set" = none
  b_sorted : mg "sorted" = none
  b_str : mg "str" = none
  b_tuple : mg "tuple" = none
  b_zip : mg "zip" = none
  c_MOST : ∃ t, mg "MOST" = some (.int 6 t)
  c_MIRROR : ∃ t, mg "MIRROR" = some (.int 4 t)
  c_CAPITALS : ∃ t, mg "CAPITALS" = some (.str (Str.ofString "ABCDEFGHIJKLMNOPQRSTUVWXYZ") t)
  c_SMALL : ∃ t, mg "SMALL" = some (.str (Str.ofString "abcdefghijklmnopqrstuvwxyz") t)
  c_MOST_LETTERS : ∃ t, mg "MOST_LETTERS" = some (.int 4 t)
  c_MOST_COST : ∃ t, mg "MOST_COST" = some (.int 9 t)
  c_MOST_PICTURES : ∃ t, mg "MOST_PICTURES" = some (.int 300 t)
  c_MOST_SIGNS : ∃ t, mg "MOST_SIGNS" = some (.int 4 t)
  c_MOST_RULES : ∃ t, mg "MOST_RULES" = some (.int 24 t)
  c_MOST_NAMES : ∃ t, mg "MOST_NAMES" = some (.int 8 t)
  x_NoFit : XC K mg "NoFit"
  x_NoRule : XC K mg "NoRule"
  x_NoGrammar : XC K mg "NoGrammar"
  x_NoName : XC K mg "NoName"
  x_TooMany : XC K mg "TooMany"
  x_QuiltError : XC K mg "QuiltError"
  p_NoFit : XPlain K "NoFit"
  p_NoRule : XPlain K "NoRule"
  i_NoGrammar : Dx K "NoGrammar" "why" "NoGrammar.__init__" s_NoGrammar_init ["self", "why"]
  p_TooMany : XPlain K "TooMany"
  p_NoName : XPlain K "NoName"
  q_QuiltError : ∃ D, XBase K mg "QuiltError" D
  o_Rule : OC K mg "Rule"
  o_CellRule : OC K mg "CellRule"
  o_BesideRule : OC K mg "BesideRule"
  o_AboveRule : OC K mg "AboveRule"
  o_TurnRule : OC K mg "TurnRule"
  o_Sizes : OC K mg "Sizes"
  o_Grammar : OC K mg "Grammar"
  a_Rule_name : NoA K "Rule" "name"
  a_Rule_cost : NoA K "Rule" "cost"
  m_Rule_init : Dm K "Rule" "__init__" "Rule.__init__" s_Rule_init ["self", "name", "cost"]
  a_CellRule_sign : NoA K "CellRule" "sign"
  a_CellRule_name : NoA K "CellRule" "name"
  a_CellRule_cost : NoA K "CellRule" "cost"
  m_CellRule_init : Dm K "CellRule" "__init__" "CellRule.__init__" s_CellRule_init ["self", "name", "cost", "sign"]
  m_CellRule_made : Dm K "CellRule" "made" "CellRule.made" s_CellRule_made ["self", "pictures"]
  m_CellRule_told : Dm K "CellRule" "told" "CellRule.told" s_CellRule_told ["self"]
  m_CellRule_parts : Dm K "CellRule" "parts" "Rule.parts" s_Rule_parts ["self"]
  m_CellRule_begun : Dm K "CellRule" "begun" "Rule.begun" s_Rule_begun ["self"]
  a_BesideRule_one : NoA K "BesideRule" "one"
  a_BesideRule_other : NoA K "BesideRule" "other"
  a_BesideRule_name : NoA K "BesideRule" "name"
  a_BesideRule_cost : NoA K "BesideRule" "cost"
  m_BesideRule_init : Dm K "BesideRule" "__init__" "BesideRule.__init__" s_BesideRule_init ["self", "name", "cost", "one", "other"]
  m_BesideRule_parts : Dm K "BesideRule" "parts" "BesideRule.parts" s_BesideRule_parts ["self"]
  m_BesideRule_made : Dm K "BesideRule" "made" "BesideRule.made" s_BesideRule_made ["self", "pictures"]
  m_BesideRule_told : Dm K "BesideRule" "told" "BesideRule.told" s_BesideRule_told ["self"]
  m_BesideRule_begun : Dm K "BesideRule" "begun" "Rule.begun" s_Rule_begun ["self"]
  a_AboveRule_one : NoA K "AboveRule" "one"
  a_AboveRule_other : NoA K "AboveRule" "other"
  a_AboveRule_name : NoA K "AboveRule" "name"
  a_AboveRule_cost : NoA K "AboveRule" "cost"
  m_AboveRule_init : Dm K "AboveRule" "__init__" "AboveRule.__init__" s_AboveRule_init ["self", "name", "cost", "one", "other"]
  m_AboveRule_parts : Dm K "AboveRule" "parts" "AboveRule.parts" s_AboveRule_parts ["self"]
  m_AboveRule_made : Dm K "AboveRule" "made" "AboveRule.made" s_AboveRule_made ["self", "pictures"]
  m_AboveRule_told : Dm K "AboveRule" "told" "AboveRule.told" s_AboveRule_told ["self"]
  m_AboveRule_begun : Dm K "AboveRule" "begun" "Rule.begun" s_Rule_begun ["self"]
  a_TurnRule_part : NoA K "TurnRule" "part"
  a_TurnRule_turning : NoA K "TurnRule" "turning"
  a_TurnRule_name : NoA K "TurnRule" "name"
  a_TurnRule_cost : NoA K "TurnRule" "cost"
  m_TurnRule_init : Dm K "TurnRule" "__init__" "TurnRule.__init__" s_TurnRule_init ["self", "name", "cost", "part", "turning"]
  m_TurnRule_parts : Dm K "TurnRule" "parts" "TurnRule.parts" s_TurnRule_parts ["self"]
  m_TurnRule_made : Dm K "TurnRule" "made" "TurnRule.made" s_TurnRule_made ["self", "pictures"]
  m_TurnRule_told : Dm K "TurnRule" "told" "TurnRule.told" s_TurnRule_told ["self"]
  m_TurnRule_begun : Dm K "TurnRule" "begun" "Rule.begun" s_Rule_begun ["self"]
  a_Sizes_grammar : NoA K "Sizes" "grammar"
  a_Sizes_kept : NoA K "Sizes" "kept"
  m_Sizes_init : Dm K "Sizes" "__init__" "Sizes.__init__" s_Sizes_init ["self", "grammar"]
  m_Sizes_put : Dm K "Sizes" "put" "Sizes.put" s_Sizes_put ["self", "found", "rule", "one", "other"]
  m_Sizes_begun : Dm K "Sizes" "begun" "Sizes.begun" s_Sizes_begun ["self", "rows", "columns"]
  m_Sizes_turned_on : Dm K "Sizes" "turned_on" "Sizes.turned_on" s_Sizes_turned_on ["self", "both"]
  m_Sizes_fill : Dm K "Sizes" "fill" "Sizes.fill" s_Sizes_fill ["self", "rows", "columns"]
  a_Grammar_signs : NoA K "Grammar" "signs"
  a_Grammar_start : NoA K "Grammar" "start"
  a_Grammar_kept_rules : NoA K "Grammar" "kept_rules"
  a_Grammar_kept_names : NoA K "Grammar" "kept_names"
  m_Grammar_init : Dm K "Grammar" "__init__" "Grammar.__init__" s_Grammar_init ["self", "signs", "start", "rules"]
  m_Grammar_rules : Dm K "Grammar" "rules" "Grammar.rules" s_Grammar_rules ["self"]
  m_Grammar_numbers_of : Dm K "Grammar" "numbers_of" "Grammar.numbers_of" s_Grammar_numbers_of ["self", "name"]
  m_Grammar_told : Dm K "Grammar" "told" "Grammar.told" s_Grammar_told ["self"]
  z_Rule : CInit K "Rule"
  u_CellRule_BesideRule : OSub K "CellRule" "BesideRule" false
  u_CellRule_AboveRule : OSub K "CellRule" "AboveRule" false
  u_CellRule_CellRule : OSub K "CellRule" "CellRule" true
  u_CellRule_TurnRule : OSub K "CellRule" "TurnRule" false
  u_BesideRule_BesideRule : OSub K "BesideRule" "BesideRule" true
  u_BesideRule_AboveRule : OSub K "BesideRule" "AboveRule" false
  u_BesideRule_CellRule : OSub K "BesideRule" "CellRule" false
  u_BesideRule_TurnRule : OSub K "BesideRule" "TurnRule" false
  u_AboveRule_BesideRule : OSub K "AboveRule" "BesideRule" false
  u_AboveRule_AboveRule : OSub K "AboveRule" "AboveRule" true
  u_AboveRule_CellRule : OSub K "AboveRule" "CellRule" false
  u_AboveRule_TurnRule : OSub K "AboveRule" "TurnRule" false
  u_TurnRule_BesideRule : OSub K "TurnRule" "BesideRule" false
  u_TurnRule_AboveRule : OSub K "TurnRule" "AboveRule" false
  u_TurnRule_CellRule : OSub K "TurnRule" "CellRule" false
  u_TurnRule_TurnRule : OSub K "TurnRule" "TurnRule" true
  u_Sizes_BesideRule : OSub K "Sizes" "BesideRule" false
  u_Sizes_AboveRule : OSub K "Sizes" "AboveRule" false
  u_Sizes_CellRule : OSub K "Sizes" "CellRule" false
  u_Sizes_TurnRule : OSub K "Sizes" "TurnRule" false
  u_Grammar_BesideRule : OSub K "Grammar" "BesideRule" false
  u_Grammar_AboveRule : OSub K "Grammar" "AboveRule" false
  u_Grammar_CellRule : OSub K "Grammar" "CellRule" false
  u_Grammar_TurnRule : OSub K "Grammar" "TurnRule" false
  f_size_of : Df K mg "size_of" s_size_of ["picture"]
  f_shown : Df K mg "shown" s_shown ["picture"]
  f_beside : Df K mg "beside" s_beside ["one", "other"]
  f_above : Df K mg "above" s_above ["one", "other"]
  f_quarter : Df K mg "quarter" s_quarter ["picture"]
  f_mirrored : Df K mg "mirrored" s_mirrored ["picture"]
  f_turned : Df K mg "turned" s_turned ["picture", "t"]
  f_after : Df K mg "after" s_after ["t", "u"]
  f_back : Df K mg "back" s_back ["t"]
  f_is_name : Df K mg "is_name" s_is_name ["text"]
  f_asked_name : Df K mg "asked_name" s_asked_name ["text"]
  f_turned_pair : Df K mg "turned_pair" s_turned_pair ["name", "cost", "names", "t"]
  f_note : Df K mg "note" s_note ["found", "name", "picture", "cost"]
  f_made_of : Df K mg "made_of" s_made_of ["found", "name"]
  f_cells_of : Df K mg "cells_of" s_cells_of ["size"]
  f_sizes_within : Df K mg "sizes_within" s_sizes_within ["rows", "columns"]
  f_picture_of : Df K mg "picture_of" s_picture_of ["pair"]
  f_pictures_of : Df K mg "pictures_of" s_pictures_of ["grammar", "name", "rows", "columns"]
  f_are_signs : Df K mg "are_signs" s_are_signs ["text"]
  f_names_met : Df K mg "names_met" s_names_met ["start", "rules"]
  f_asked_rules : Df K mg "asked_rules" s_asked_rules ["signs", "rules"]
  f_law_cell : Df K mg "_law_cell" s_law_cell ["_law_script", "_law_k"]
  f_law_cells : Df K mg "_law_cells" s_law_cells ["_law_script", "_law_begin", "_law_most"]
  f_law_signs : Df K mg "_law_signs" s_law_signs ["_law_cell_here", "_law_most"]
  f_law_names : Df K mg "_law_names" s_law_names ["_law_cell_here"]
  f_law_rule : Df K mg "_law_rule" s_law_rule ["_law_rule_here"]
  f_law_grammar : Df K mg "_law_grammar" s_law_grammar ["_law_signs_here", "_law_start", "_law_rules"]
  f_law_turned : Df K mg "_law_turned" s_law_turned ["_law_picture", "_law_t"]
  f_law_drawn : Df K mg "_law_drawn" s_law_drawn ["_law_cell_here", "_law_signs_here", "_law_names_here"]
  f_law_all : Df K mg "_law_all" s_law_all ["_law_signs_here", "_law_rows", "_law_columns"]
  f_law_pair : Df K mg "_law_pair" s_law_pair ["_law_costs_here", "_law_rule_here", "_law_picture"]
  f_law_comes : Df K mg "_law_comes" s_law_comes ["_law_costs_here", "_law_rule_here", "_law_picture"]
  f_law_costs : Df K mg "_law_costs" s_law_costs ["_law_rules", "_law_pictures"]
section
variable {P : Program} {w : World} {K : PySem.W.Frag} {mg : Str → Option Value} {base : Heap}
theorem init_NoGrammar (T : Txt K mg) : XInit P w K mg base 1 "NoGrammar" "why" := XInit.of T.i_NoGrammar sc_NoGrammar_init rfl fun C fI TC hno cdv A outer s H E a v Q ha hq => by
  obtain ⟨D, bD⟩ := T.q_QuiltError
  exact WP.cons (ps_expr (pe_qinit bD (pa_cons (pe_var (i := 0) rfl (.inl rfl)) (pa_cons pe_str pa_nil))) rfl) ⟨_, rfl, a, C, _, rfl, by decide, TC, ha, WP.cons (ps_ost (pe_var (i := 0) rfl (.inl rfl)) (pe_var (i := 1) rfl (.inl rfl)) rfl) ⟨v, rfl, _, rfl, a, C, rfl, TC, hno, .inl ⟨ha, fun dx h1 h2 => WP.of pss_nil (hq dx h1 h2)⟩⟩⟩
end
noncomputable def lawCell (s : List Int) (k : Int) : Int :=
  let c := if k < s.length then s.getD k.toNat 0 else 0
  let m := (c % 2147483647 + 7919 * k + 1) * 48271 % 2147483647
  c / 2147483647 * 2147483647 + (m * 69621 + k) % 2147483647
noncomputable def cellS : Tw.Spec := fun A P _ => ∃ (s : Scr) (k : Int), A = [vl s, vl k] ∧ s.l.length ≤ 63 ∧ 0 ≤ k ∧ P (rv (lawCell s.l k))
theorem getD_ok {signs : Tx} (h : TxOk signs) (n : Nat) : signs.getD n 0 < 1114112 := by
  rw [List.getD_eq_getElem?_getD]
  cases e : signs[n]? with
  | none => decide
  | some x => exact h x (List.mem_of_getElem? e)
section
variable {P : Program} {w : World} {K : PySem.W.Frag} {mg : Str → Option Value} {base : Heap}
theorem mulR {i j : Int} (h1 : autoParam (-(2 ^ 64) < j) Tw.aDec) (h2 : autoParam (j < 2 ^ 64) Tw.aDec) : CMul i j := .inr ⟨h1, h2⟩
theorem mulL {i j : Int} (h1 : autoParam (-(2 ^ 64) < i) Tw.aDec) (h2 : autoParam (i < 2 ^ 64) Tw.aDec) : CMul i j := .inl ⟨h1, h2⟩
theorem divK {i j : Int} (h : autoParam (0 < j) Tw.aDec) (h2 : autoParam (j.natAbs.log2 < 9000) Tw.aDec) : CDivW i j := ⟨h, h2⟩
theorem ok_law_cell (T : Txt K mg) : Has P w K mg base 1 "_law_cell" ["_law_script", "_law_k"] cellS := by
  refine Has.of T.f_law_cell sc_law_cell (fun A Q R ⟨s, k, e, _⟩ => by rw [e]; rfl) fun f cdv A outer s0 H E hr Γ Q R ⟨s, k, e, hl, hk, hq⟩ => ?_
  subst e
  refine st_set 2 ev_int ?_ sc_law_cell.nd
  have go : ∀ c : Int, c = (if k < s.l.length then s.l.getD k.toNat 0 else 0) → Tw.ST (cxOf (L2.CX P w) P w K mg base N_law_cell "_law_cell" (defScope s_law_cell) f cdv A outer s0 H E).nox ((defBody s_law_cell).drop 2) [vl s, vl k, vl c, .no] (fin Q) := by
    intro c ec
    refine st_set 3 (ev_bin (o_mod (by decide)) (ev_bin (o_mul mulR) (ev_bin o_add (ev_bin o_add (ev_bin (o_mod (by decide)) (ev_var 2) ev_int) (ev_bin (o_mul mulL) ev_int (ev_var 1))) ev_int) ev_int) ev_int) ?_ sc_law_cell.nd
    refine st_retV (ev_bin o_add (ev_bin (o_mul mulR) (ev_bin (o_div divK) (ev_var 2) ev_int) ev_int) (ev_bin (o_mod (by decide)) (ev_bin o_add (ev_bin (o_mul mulR) (ev_var 3) ev_int) (ev_var 1)) ev_int)) ?_
    unfold lawCell at hq
    rw [← ec] at hq
    exact hq
  refine st_if (et_cmp o_lt (ev_var 1) (ev_lenScr T.b_len (ev_var 0))) (fun h => ?_) (fun h => ?_)
  · have h1 := of_decide_eq_true h
    have hlt : k.toNat < s.l.length := by omega
    refine st_set 2 (ev_ixScr (x := s.l.getD k.toNat 0) (ev_var 0) (ev_var 1) ?_) (st_nil (go _ ?_)) sc_law_cell.nd
    · have := atI_nat (xs := s.l) (j := k.toNat) (List.getElem?_eq_getElem hlt)
      rw [show ((k.toNat : Nat) : Int) = k by omega] at this
      rw [this, List.getD_eq_getElem?_getD, List.getElem?_eq_getElem hlt]; rfl
    · rw [if_pos h1]
  · have h1 := of_decide_eq_false h
    refine st_nil (go _ ?_)
    rw [if_neg h1]
end
noncomputable abbrev capTx : Tx := tx "ABCDEFGHIJKLMNOPQRSTUVWXYZ"
noncomputable abbrev smallTx : Tx := tx "abcdefghijklmnopqrstuvwxyz"
noncomputable def isName (x : Tx) : Bool := (decide (1 ≤ x.length) && decide (x.length ≤ 4)) && x.all fun c => decide (c ∈ capTx)
theorem isName_len {x : Tx} (h : isName x = true) : x.length ≤ 4 := by
  unfold isName at h
  simp only [Bool.and_eq_true, decide_eq_true_eq] at h
  exact h.1.2
theorem small_lt : ∀ c ∈ smallTx, c < 128 := by decide +kernel
set_option genInjectivity true in
inductive RuleD where
  | cell (name : Tx) (cost : Int) (sign : Tx)
  | beside (name : Tx) (cost : Int) (one other : Tx)
  | above (name : Tx) (cost : Int) (one other : Tx)
  | turn (name : Tx) (cost : Int) (part : Tx) (turning : Int)
  deriving DecidableEq
noncomputable def RuleD.cls : RuleD → Str
  | .cell .. => "CellRule"
  | .beside .. => "BesideRule"
  | .above .. => "AboveRule"
  | .turn .. => "TurnRule"
noncomputable def RuleD.name : RuleD → Tx
  | .cell n _ _ => n
  | .beside n _ _ _ => n
  | .above n _ _ _ => n
  | .turn n _ _ _ => n
noncomputable def RuleD.cost : RuleD → Int
  | .cell _ c _ => c
  | .beside _ c _ _ => c
  | .above _ c _ _ => c
  | .turn _ c _ _ => c
noncomputable def RuleD.parts : RuleD → List Tx
  | .cell .. => []
  | .beside _ _ a b => [a, b]
  | .above _ _ a b => [a, b]
  | .turn _ _ a _ => [a]
noncomputable def RuleD.flds : RuleD → List (Str × Slot)
  | .cell n c s => [("name", vl n), ("cost", vl c), ("sign", vl s)]
  | .beside n c a b => [("name", vl n), ("cost", vl c), ("one", vl a), ("other", vl b)]
  | .above n c a b => [("name", vl n), ("cost", vl c), ("one", vl a), ("other", vl b)]
  | .turn n c a t => [("name", vl n), ("cost", vl c), ("part", vl a), ("turning", vl t)]
noncomputable instance : Inst RuleD := ⟨RuleD.cls, RuleD.flds⟩
noncomputable def costOk (c : Int) : Bool := decide (1 ≤ c) && decide (c ≤ 9)
noncomputable def signOk (s : Tx) : Bool := decide (s.length = 1) && s.all fun c => decide (c ∈ smallTx)
noncomputable def RuleD.good : RuleD → Bool
  | .cell n c s => signOk s && (costOk c && isName n)
  | .beside n c a b => (costOk c && isName n) && (isName a && isName b)
  | .above n c a b => (costOk c && isName n) && (isName a && isName b)
  | .turn n c a t => (decide (0 ≤ t) && decide (t ≤ 7)) && ((costOk c && isName n) && isName a)
noncomputable def NoRule : Exn := ⟨"NoRule", "", .no⟩
noncomputable def nameS : Tw.Spec := fun A P _ => ∃ (x : Tx), A = [vl x] ∧ x.length ≤ 1000 ∧ P (rv (isName x))
noncomputable def askedS : Tw.Spec := fun A P R => ∃ (x : Tx), A = [vl x] ∧ x.length ≤ 1000 ∧ (isName x = true → P (rv x)) ∧ (isName x = false → R NoRule)
noncomputable def ruleInitS (K : PySem.W.Frag) : Tw.Spec := fun A P R => ∃ (C a dx : Addr) (n : Tx) (c : Int), A = [.own (ownI C a dx []), vl n, vl c] ∧ Cls K C ∧ NoAttr K C "name" ∧ NoAttr K C "cost" ∧ n.length ≤ 1000 ∧
  ((costOk c && isName n) = true → P (.chg repUnit () [ownI C a dx [("name", vl n), ("cost", vl c)]])) ∧ ((costOk c && isName n) = false → R NoRule)
noncomputable def cellInitS (K : PySem.W.Frag) : Tw.Spec := fun A P R => ∃ (C a dx : Addr) (n : Tx) (c : Int) (s : Tx), A = [.own (ownI C a dx []), vl n, vl c, vl s] ∧ PySem.W.nsIn K mainGlobals "CellRule" = some (some (.ref C)) ∧ n.length ≤ 1000 ∧ s.length ≤ 1000 ∧
  ((RuleD.cell n c s).good = true → P (.chg repUnit () [ownI C a dx (RuleD.cell n c s).flds])) ∧ ((RuleD.cell n c s).good = false → R NoRule)
noncomputable def besideInitS (K : PySem.W.Frag) : Tw.Spec := fun A P R => ∃ (C a dx : Addr) (n : Tx) (c : Int) (x y : Tx), A = [.own (ownI C a dx []), vl n, vl c, vl x, vl y] ∧ PySem.W.nsIn K mainGlobals "BesideRule" = some (some (.ref C)) ∧ n.length ≤ 1000 ∧ x.length ≤ 1000 ∧ y.length ≤ 1000 ∧
  ((RuleD.beside n c x y).good = true → P (.chg repUnit () [ownI C a dx (RuleD.beside n c x y).flds])) ∧ ((RuleD.beside n c x y).good = false → R NoRule)
noncomputable def aboveInitS (K : PySem.W.Frag) : Tw.Spec := fun A P R => ∃ (C a dx : Addr) (n : Tx) (c : Int) (x y : Tx), A = [.own (ownI C a dx []), vl n, vl c, vl x, vl y] ∧ PySem.W.nsIn K mainGlobals "AboveRule" = some (some (.ref C)) ∧ n.length ≤ 1000 ∧ x.length ≤ 1000 ∧ y.length ≤ 1000 ∧
  ((RuleD.above n c x y).good = true → P (.chg repUnit () [ownI C a dx (RuleD.above n c x y).flds])) ∧ ((RuleD.above n c x y).good = false → R NoRule)
noncomputable def turnInitS (K : PySem.W.Frag) : Tw.Spec := fun A P R => ∃ (C a dx : Addr) (n : Tx) (c : Int) (x : Tx) (t : Int), A = [.own (ownI C a dx []), vl n, vl c, vl x, vl t] ∧ PySem.W.nsIn K mainGlobals "TurnRule" = some (some (.ref C)) ∧ n.length ≤ 1000 ∧ x.length ≤ 1000 ∧
  ((RuleD.turn n c x t).good = true → P (.chg repUnit () [ownI C a dx (RuleD.turn n c x t).flds])) ∧ ((RuleD.turn n c x t).good = false → R NoRule)
theorem OC.cl {K : PySem.W.Frag} {mg : Str → Option Value} {n : Str} {C : Addr} (h : OC K mg n) (e : PySem.W.nsIn K mainGlobals n = some (some (.ref C))) : Cls K C := by
  obtain ⟨D, kD, _⟩ := h
  obtain rfl := ns_one kD.ns e
  exact kD.cl
section
variable {P : Program} {w : World} {K : PySem.W.Frag} {mg : Str → Option Value} {base : Heap}
theorem lk {f : Str} {fs : List (Str × Slot)} (h : (fs.map (·.1)).contains f = false) : fs.lookup f = none := by
  induction fs with
  | nil => rfl
  | cons p fs ih =>
    obtain ⟨g, s⟩ := p
    rw [List.map_cons, List.contains_cons, Bool.or_eq_false_iff] at h
    rw [lookup_ne (by simpa using h.1)]
    exact ih h.2
theorem ok_is_name (T : Txt K mg) : Has P w K mg base 1 "is_name" ["text"] nameS := by
  refine Has.of T.f_is_name sc_is_name (fun A Q R ⟨x, e, _⟩ => by rw [e]; rfl) fun f cdv A outer s0 H E hr Γ Q R ⟨x, e, hl, hq⟩ => ?_
  subst e
  refine st_retV (ev_eq (y := isName x) (ev_and2 (ev_chain o_le (fun _ => o_le) ev_int (ev_lenS T.b_len (ev_var 0) (sl_small (by omega))) (fun _ => ev_gintE T.c_MOST_LETTERS)) fun _ => ev_all T.b_all (ev_of_en (en_lc (α := Tx) (β := Bool) (own := [("sign", 1)]) (f := fun y => decide (y.headD 0 ∈ capTx)) (src_str (ev_var 0)) (tg_name 1) (fun _ _ _ _ _ => pgn 1 sc_is_name.nd)
    (fun y hy _ _ _ _ _ => ?_) sc_is_name.nd (ok := bk_is_name (by decide +kernel)) (hz := by rw [List.length_map]; exact sl_small (by omega))))) ?_) hq
  · obtain ⟨c, _, rfl⟩ := List.mem_map.mp hy
    exact ev_cmp o_inS (ev_var 1) (ev_gstrE T.c_CAPITALS)
  · unfold isName
    rw [List.map_map, List.all_map]
    congr 1
    congr 1
    · exact decide_eq_decide.mpr (by omega)
    · exact decide_eq_decide.mpr (by omega)
theorem ok_asked_name (T : Txt K mg) : Has P w K mg base 2 "asked_name" ["text"] askedS := by
  refine Has.ofX T.f_asked_name sc_asked_name (fun A Q R ⟨x, e, _⟩ => by rw [e]; rfl) fun f cdv A outer s0 H E hr Γ Q R ⟨x, e, hl, h1, h2⟩ => ?_
  subst e
  refine st_if (et_not (et_val (ev_call (x := isName x) (ok_is_name T) (hr.mono (by decide)) (ea_cons (ev_var 0) ea_nil) fun P R h => ⟨x, rfl, hl, h⟩))) (fun h => ?_) (fun h => st_nil ?_)
  · exact st_raise0 T.x_NoRule T.p_NoRule (h2 (by simpa using h))
  · exact st_retV (ev_var 0) (h1 (by simpa using h))
theorem ok_Rule_init (T : Txt K mg) : HasM P w K mg base 3 "Rule" "__init__" ["self", "name", "cost"] (ruleInitS K) := by
  refine HasM.ofI T.m_Rule_init sc_Rule_init (fun A Q R ⟨C, a, dx, n, c, e, _⟩ => by rw [e]; rfl) fun f cdv A outer s0 H E hr Γ Q R ⟨C, a, dx, n, c, e, hc, hn1, hn2, hl, h1, h2⟩ => ⟨ownI C a dx [], ?_⟩
  subst e
  refine st_if (et_or (et_cmp o_lt (ev_var 2) ev_int) fun _ => et_cmp o_gt (ev_var 2) (ev_gintE T.c_MOST_COST)) (fun h => ?_) (fun h => st_nil ?_)
  · have hb : costOk c = false := by
      unfold costOk
      simp only [Bool.or_eq_true, decide_eq_true_eq, Bool.and_eq_false_iff, decide_eq_false_iff_not] at h ⊢
      omega
    exact st_raise0 T.x_NoRule T.p_NoRule (h2 (by rw [hb]; rfl))
  have hb : costOk c = true := by
    unfold costOk
    simp only [Bool.or_eq_false_iff, decide_eq_false_iff_not, Bool.and_eq_true, decide_eq_true_eq] at h ⊢
    omega
  rw [hb, Bool.true_and] at h1 h2
  cases hn : isName n with
  | false =>
    exact st_setFR (R := fun y => y = NoRule) (exx_call (ok_asked_name T) (hr.mono (by decide)) (ea_cons (ev_var 1) ea_nil) fun P' R' _ h => ⟨n, rfl, hl, fun z => by (rw [hn] at z; cases z), fun _ => h _ rfl⟩) (fun x e => e ▸ h2 hn) 0
  | true =>
    refine st_setF 0 (fs := []) (ev_call (x := n) (ok_asked_name T) (hr.mono (by decide)) (ea_cons (ev_var 1) ea_nil) fun P' R' h => ⟨n, rfl, hl, fun _ => h, fun z => by rw [hn] at z; cases z⟩) ?_ hc hn1 rfl
    exact st_setF 0 (fs := [("name", vl n)]) (ev_var 2) (st_nil ⟨_, rfl, rfl, h1 hn⟩) hc hn2 (lk rfl)
theorem ok_CellRule_init (T : Txt K mg) : HasM P w K mg base 4 "CellRule" "__init__" ["self", "name", "cost", "sign"] (cellInitS K) := by
  refine HasM.ofI T.m_CellRule_init sc_CellRule_init (fun A Q R ⟨C, a, dx, n, c, s, e, _⟩ => by rw [e]; rfl) fun f cdv A outer s0 H E hr Γ Q R ⟨C, a, dx, n, c, s, e, hC, hl, hls, h1, h2⟩ => ⟨ownI C a dx [], ?_⟩
  subst e
  have hc := OC.cl T.o_CellRule hC
  have key : ∀ k : Bool, k = signOk s → ((k = true → (RuleD.cell n c s).good = (costOk c && isName n)) ∧ (k = false → (RuleD.cell n c s).good = false)) := fun k e => by
    subst e
    show (_ → (signOk s && (costOk c && isName n)) = _) ∧ (_ → (signOk s && (costOk c && isName n)) = _)
    exact ⟨fun h => by rw [h, Bool.true_and], fun h => by rw [h, Bool.false_and]⟩
  have hlen : EV (cxOf (L2.CX P w) P w K mg base N_CellRule_init "CellRule.__init__" (defScope s_CellRule_init) f cdv A outer s0 H E) [.own (ownI C a dx []), vl n, vl c, vl s] = EV (cxOf (L2.CX P w) P w K mg base N_CellRule_init "CellRule.__init__" (defScope s_CellRule_init) f cdv A outer s0 H E) [.own (ownI C a dx []), vl n, vl c, vl s] := rfl
  have rest : signOk s = true → Tw.ST (cxOf (L2.CX P w) P w K mg base N_CellRule_init "CellRule.__init__" (defScope s_CellRule_init) f cdv A outer s0 H E) ((defBody s_CellRule_init).drop 1) [.own (ownI C a dx []), vl n, vl c, vl s] (finI (ownI C a dx []) Q R) := fun hs => by
    have hg := (key _ rfl).1 hs
    cases hnc : (costOk c && isName n) with
    | false =>
      rw [hnc] at hg
      exact st_dropG (P := fun _ _ => False) (R := fun y Γ' => y = NoRule) (eg_cinit 0 (G := fun _ _ => False) T.o_Rule T.z_Rule (ok_Rule_init T) (hr.mono (by decide)) (eab_o 0 (eab_v (ev_var 1) (eab_v (ev_var 2) eab_nil))) rfl rfl (fun _ _ z => z.elim) (fun _ _ z => z.elim) fun P' R' _ h => ⟨C, a, dx, n, c, rfl, hc, T.a_CellRule_name C hC, T.a_CellRule_cost C hC, hl, fun z => by (rw [hnc] at z; cases z), fun _ => h _ rfl⟩) (fun _ _ z => z.elim) (fun y Γ' e => e ▸ h2 hg)
    | true =>
      rw [hnc] at hg
      refine st_dropG (P := fun _ Γ' => Γ' = _) (R := fun y Γ' => False) (eg_cinit 0 (G := fun _ o' => o' = ownI C a dx [("name", vl n), ("cost", vl c)]) T.o_Rule T.z_Rule (ok_Rule_init T) (hr.mono (by decide)) (eab_o 0 (eab_v (ev_var 1) (eab_v (ev_var 2) eab_nil))) rfl rfl (fun _ o' e => by (rw [e]; rfl)) (fun _ o' e => by rw [e]) fun P' R' h _ => ⟨C, a, dx, n, c, rfl, hc, T.a_CellRule_name C hC, T.a_CellRule_cost C hC, hl, fun _ => h () _ rfl, fun z => by rw [hnc] at z; cases z⟩) (fun _ Γ' e => e ▸ ?_) (fun y Γ' z => z.elim)
      exact st_setF 0 (fs := [("name", vl n), ("cost", vl c)]) (ev_var 3) (st_nil ⟨_, rfl, rfl, h1 hg⟩) hc (T.a_CellRule_sign C hC) (lk rfl)
  by_cases h1s : s.length = 1
  · obtain ⟨d, rfl⟩ : ∃ d, s = [d] := by
      match s, h1s with
      | [d], _ => exact ⟨d, rfl⟩
    refine st_if (et_or (et_cmp o_ne (ev_lenS T.b_len (ev_var 3) (sl_small (by simp))) ev_int) fun _ => et_cmp (o_notInS (c := d)) (ev_var 3) (ev_gstrE T.c_SMALL)) (fun h => ?_) (fun h => st_nil (rest ?_))
    · have h' : (!decide (d ∈ smallTx)) = true := h
      refine st_raise0 T.x_NoRule T.p_NoRule (h2 ((key _ rfl).2 ?_))
      show (true && (decide (d ∈ smallTx) && true)) = false
      generalize decide (d ∈ smallTx) = k at h' ⊢
      revert h'; cases k <;> decide
    · have h' : (!decide (d ∈ smallTx)) = false := h
      show (true && (decide (d ∈ smallTx) && true)) = true
      generalize decide (d ∈ smallTx) = k at h' ⊢
      revert h'; cases k <;> decide
  · refine st_if (k := true) (et_eq (et_or (m := false) (et_cmp o_ne (ev_lenS T.b_len (ev_var 3) (sl_small (by omega))) ev_int) fun h => absurd h ?_) ?_) (fun _ => st_raise0 T.x_NoRule T.p_NoRule (h2 ((key _ rfl).2 ?_))) (fun h => nomatch h)
    · simp; omega
    · simp; omega
    · unfold signOk
      rw [decide_eq_false h1s]; rfl
theorem ok_BesideRule_init (T : Txt K mg) : HasM P w K mg base 4 "BesideRule" "__init__" ["self", "name", "cost", "one", "other"] (besideInitS K) := by
  refine HasM.ofI T.m_BesideRule_init sc_BesideRule_init (fun A Q R ⟨C, a, dx, n, c, x, y, e, _⟩ => by rw [e]; rfl) fun f cdv A outer s0 H E hr Γ Q R ⟨C, a, dx, n, c, x, y, e, hC, hl, hlx, hly, h1, h2⟩ => ⟨ownI C a dx [], ?_⟩
  subst e
  have hc := OC.cl T.o_BesideRule hC
  cases hnc : (costOk c && isName n) with
  | false =>
    refine st_dropG (P := fun _ _ => False) (R := fun y Γ' => y = NoRule) (eg_cinit 0 (G := fun _ _ => False) T.o_Rule T.z_Rule (ok_Rule_init T) (hr.mono (by decide)) (eab_o 0 (eab_v (ev_var 1) (eab_v (ev_var 2) eab_nil))) rfl rfl (fun _ _ z => z.elim) (fun _ _ z => z.elim) fun P' R' _ h => ⟨C, a, dx, n, c, rfl, hc, T.a_BesideRule_name C hC, T.a_BesideRule_cost C hC, hl, fun z => by (rw [hnc] at z; cases z), fun _ => h _ rfl⟩) (fun _ _ z => z.elim) (fun y' Γ' e => e ▸ h2 ?_)
    show ((costOk c && isName n) && (isName x && isName y)) = false
    rw [hnc]; rfl
  | true =>
    refine st_dropG (P := fun _ Γ' => Γ' = _) (R := fun y Γ' => False) (eg_cinit 0 (G := fun _ o' => o' = ownI C a dx [("name", vl n), ("cost", vl c)]) T.o_Rule T.z_Rule (ok_Rule_init T) (hr.mono (by decide)) (eab_o 0 (eab_v (ev_var 1) (eab_v (ev_var 2) eab_nil))) rfl rfl (fun _ o' e => by (rw [e]; rfl)) (fun _ o' e => by rw [e]) fun P' R' h _ => ⟨C, a, dx, n, c, rfl, hc, T.a_BesideRule_name C hC, T.a_BesideRule_cost C hC, hl, fun _ => h () _ rfl, fun z => by rw [hnc] at z; cases z⟩) (fun _ Γ' e => e ▸ ?_) (fun y Γ' z => z.elim)
    cases hx : isName x with
    | false =>
      refine st_setFR (R := fun y => y = NoRule) (exx_call (ok_asked_name T) (hr.mono (by decide)) (ea_cons (ev_var 3) ea_nil) fun P' R' _ h => ⟨x, rfl, hlx, fun z => by (rw [hx] at z; cases z), fun _ => h _ rfl⟩) (fun y' e => e ▸ h2 ?_) 0
      show ((costOk c && isName n) && (isName x && isName y)) = false
      rw [hnc, hx]; rfl
    | true =>
      refine st_setF 0 (fs := [("name", vl n), ("cost", vl c)]) (ev_call (x := x) (ok_asked_name T) (hr.mono (by decide)) (ea_cons (ev_var 3) ea_nil) fun P' R' h => ⟨x, rfl, hlx, fun _ => h, fun z => by rw [hx] at z; cases z⟩) ?_ hc (T.a_BesideRule_one C hC) (lk rfl)
      cases hy : isName y with
      | false =>
        refine st_setFR (R := fun y => y = NoRule) (exx_call (ok_asked_name T) (hr.mono (by decide)) (ea_cons (ev_var 4) ea_nil) fun P' R' _ h => ⟨y, rfl, hly, fun z => by (rw [hy] at z; cases z), fun _ => h _ rfl⟩) (fun y' e => e ▸ h2 ?_) 0
        show ((costOk c && isName n) && (isName x && isName y)) = false
        rw [hnc, hx, hy]; rfl
      | true =>
        refine st_setF 0 (fs := [("name", vl n), ("cost", vl c), ("one", vl x)]) (ev_call (x := y) (ok_asked_name T) (hr.mono (by decide)) (ea_cons (ev_var 4) ea_nil) fun P' R' h => ⟨y, rfl, hly, fun _ => h, fun z => by rw [hy] at z; cases z⟩) (st_nil ⟨_, rfl, rfl, h1 ?_⟩) hc (T.a_BesideRule_other C hC) (lk rfl)
        show ((costOk c && isName n) && (isName x && isName y)) = true
        rw [hnc, hx, hy]; rfl
theorem ok_AboveRule_init (T : Txt K mg) : HasM P w K mg base 4 "AboveRule" "__init__" ["self", "name", "cost", "one", "other"] (aboveInitS K) := by
  refine HasM.ofI T.m_AboveRule_init sc_AboveRule_init (fun A Q R ⟨C, a, dx, n, c, x, y, e, _⟩ => by rw [e]; rfl) fun f cdv A outer s0 H E hr Γ Q R ⟨C, a, dx, n, c, x, y, e, hC, hl, hlx, hly, h1, h2⟩ => ⟨ownI C a dx [], ?_⟩
  subst e
  have hc := OC.cl T.o_AboveRule hC
  cases hnc : (costOk c && isName n) with
  | false =>
    refine st_dropG (P := fun _ _ => False) (R := fun y Γ' => y = NoRule) (eg_cinit 0 (G := fun _ _ => False) T.o_Rule T.z_Rule (ok_Rule_init T) (hr.mono (by decide)) (eab_o 0 (eab_v (ev_var 1) (eab_v (ev_var 2) eab_nil))) rfl rfl (fun _ _ z => z.elim) (fun _ _ z => z.elim) fun P' R' _ h => ⟨C, a, dx, n, c, rfl, hc, T.a_AboveRule_name C hC, T.a_AboveRule_cost C hC, hl, fun z => by (rw [hnc] at z; cases z), fun _ => h _ rfl⟩) (fun _ _ z => z.elim) (fun y' Γ' e => e ▸ h2 ?_)
    show ((costOk c && isName n) && (isName x && isName y)) = false
    rw [hnc]; rfl
  | true =>
    refine st_dropG (P := fun _ Γ' => Γ' = _) (R := fun y Γ' => False) (eg_cinit 0 (G := fun _ o' => o' = ownI C a dx [("name", vl n), ("cost", vl c)]) T.o_Rule T.z_Rule (ok_Rule_init T) (hr.mono (by decide)) (eab_o 0 (eab_v (ev_var 1) (eab_v (ev_var 2) eab_nil))) rfl rfl (fun _ o' e => by (rw [e]; rfl)) (fun _ o' e => by rw [e]) fun P' R' h _ => ⟨C, a, dx, n, c, rfl, hc, T.a_AboveRule_name C hC, T.a_AboveRule_cost C hC, hl, fun _ => h () _ rfl, fun z => by rw [hnc] at z; cases z⟩) (fun _ Γ' e => e ▸ ?_) (fun y Γ' z => z.elim)
    cases hx : isName x with
    | false =>
      refine st_setFR (R := fun y => y = NoRule) (exx_call (ok_asked_name T) (hr.mono (by decide)) (ea_cons (ev_var 3) ea_nil) fun P' R' _ h => ⟨x, rfl, hlx, fun z => by (rw [hx] at z; cases z), fun _ => h _ rfl⟩) (fun y' e => e ▸ h2 ?_) 0
      show ((costOk c && isName n) && (isName x && isName y)) = false
      rw [hnc, hx]; rfl
    | true =>
      refine st_setF 0 (fs := [("name", vl n), ("cost", vl c)]) (ev_call (x := x) (ok_asked_name T) (hr.mono (by decide)) (ea_cons (ev_var 3) ea_nil) fun P' R' h => ⟨x, rfl, hlx, fun _ => h, fun z => by rw [hx] at z; cases z⟩) ?_ hc (T.a_AboveRule_one C hC) (lk rfl)
      cases hy : isName y with
      | false =>
        refine st_setFR (R := fun y => y = NoRule) (exx_call (ok_asked_name T) (hr.mono (by decide)) (ea_cons (ev_var 4) ea_nil) fun P' R' _ h => ⟨y, rfl, hly, fun z => by (rw [hy] at z; cases z), fun _ => h _ rfl⟩) (fun y' e => e ▸ h2 ?_) 0
        show ((costOk c && isName n) && (isName x && isName y)) = false
        rw [hnc, hx, hy]; rfl
      | true =>
        refine st_setF 0 (fs := [("name", vl n), ("cost", vl c), ("one", vl x)]) (ev_call (x := y) (ok_asked_name T) (hr.mono (by decide)) (ea_cons (ev_var 4) ea_nil) fun P' R' h => ⟨y, rfl, hly, fun _ => h, fun z => by rw [hy] at z; cases z⟩) (st_nil ⟨_, rfl, rfl, h1 ?_⟩) hc (T.a_AboveRule_other C hC) (lk rfl)
        show ((costOk c && isName n) && (isName x && isName y)) = true
        rw [hnc, hx, hy]; rfl
theorem ok_TurnRule_init (T : Txt K mg) : HasM P w K mg base 4 "TurnRule" "__init__" ["self", "name", "cost", "part", "turning"] (turnInitS K) := by
  refine HasM.ofI T.m_TurnRule_init sc_TurnRule_init (fun A Q R ⟨C, a, dx, n, c, x, t, e, _⟩ => by rw [e]; rfl) fun f cdv A outer s0 H E hr Γ Q R ⟨C, a, dx, n, c, x, t, e, hC, hl, hlx, h1, h2⟩ => ⟨ownI C a dx [], ?_⟩
  subst e
  have hc := OC.cl T.o_TurnRule hC
  have good : (RuleD.turn n c x t).good = ((decide (0 ≤ t) && decide (t ≤ 7)) && ((costOk c && isName n) && isName x)) := rfl
  rw [good] at h1 h2
  refine st_if (et_or (et_cmp o_lt (ev_var 4) ev_int) fun _ => et_cmp o_gt (ev_var 4) ev_int) (fun h => ?_) (fun h => st_nil ?_)
  · refine st_raise0 T.x_NoRule T.p_NoRule (h2 ?_)
    have : (decide (0 ≤ t) && decide (t ≤ 7)) = false := by
      simp only [Bool.or_eq_true, decide_eq_true_eq, Bool.and_eq_false_iff, decide_eq_false_iff_not] at h ⊢
      omega
    rw [this]; rfl
  have ht : (decide (0 ≤ t) && decide (t ≤ 7)) = true := by
    simp only [Bool.or_eq_false_iff, decide_eq_false_iff_not, Bool.and_eq_true, decide_eq_true_eq] at h ⊢
    omega
  rw [ht, Bool.true_and] at h1 h2
  cases hnc : (costOk c && isName n) with
  | false =>
    exact st_dropG (P := fun _ _ => False) (R := fun y Γ' => y = NoRule) (eg_cinit 0 (G := fun _ _ => False) T.o_Rule T.z_Rule (ok_Rule_init T) (hr.mono (by decide)) (eab_o 0 (eab_v (ev_var 1) (eab_v (ev_var 2) eab_nil))) rfl rfl (fun _ _ z => z.elim) (fun _ _ z => z.elim) fun P' R' _ h => ⟨C, a, dx, n, c, rfl, hc, T.a_TurnRule_name C hC, T.a_TurnRule_cost C hC, hl, fun z => by (rw [hnc] at z; cases z), fun _ => h _ rfl⟩) (fun _ _ z => z.elim) (fun y Γ' e => e ▸ h2 (by rw [hnc]; rfl))
  | true =>
    rw [hnc, Bool.true_and] at h1 h2
    refine st_dropG (P := fun _ Γ' => Γ' = _) (R := fun y Γ' => False) (eg_cinit 0 (G := fun _ o' => o' = ownI C a dx [("name", vl n), ("cost", vl c)]) T.o_Rule T.z_Rule (ok_Rule_init T) (hr.mono (by decide)) (eab_o 0 (eab_v (ev_var 1) (eab_v (ev_var 2) eab_nil))) rfl rfl (fun _ o' e => by (rw [e]; rfl)) (fun _ o' e => by rw [e]) fun P' R' h _ => ⟨C, a, dx, n, c, rfl, hc, T.a_TurnRule_name C hC, T.a_TurnRule_cost C hC, hl, fun _ => h () _ rfl, fun z => by rw [hnc] at z; cases z⟩) (fun _ Γ' e => e ▸ ?_) (fun y Γ' z => z.elim)
    cases hx : isName x with
    | false => exact st_setFR (R := fun y => y = NoRule) (exx_call (ok_asked_name T) (hr.mono (by decide)) (ea_cons (ev_var 3) ea_nil) fun P' R' _ h => ⟨x, rfl, hlx, fun z => by (rw [hx] at z; cases z), fun _ => h _ rfl⟩) (fun y' e => e ▸ h2 hx) 0
    | true =>
      refine st_setF 0 (fs := [("name", vl n), ("cost", vl c)]) (ev_call (x := x) (ok_asked_name T) (hr.mono (by decide)) (ea_cons (ev_var 3) ea_nil) fun P' R' h => ⟨x, rfl, hlx, fun _ => h, fun z => by rw [hx] at z; cases z⟩) ?_ hc (T.a_TurnRule_part C hC) (lk rfl)
      exact st_setF 0 (fs := [("name", vl n), ("cost", vl c), ("part", vl x)]) (ev_var 4) (st_nil ⟨_, rfl, rfl, h1 hx⟩) hc (T.a_TurnRule_turning C hC) (lk rfl)
end
theorem RuleD.f_name (r : RuleD) : r.flds.lookup ("name" : Str) = some (vl r.name) := by cases r <;> rfl
theorem RuleD.f_cost (r : RuleD) : r.flds.lookup ("cost" : Str) = some (vl r.cost) := by cases r <;> rfl
theorem signOk_of {s : Tx} (h : signOk s = true) : s.length = 1 := by
  unfold signOk at h
  rw [Bool.and_eq_true, decide_eq_true_eq] at h
  exact h.1
section
variable {K : PySem.W.Frag} {mg : Str → Option Value}
theorem o_cls (T : Txt K mg) (r : RuleD) : OC K mg r.cls := by
  cases r
  · exact T.o_CellRule
  · exact T.o_BesideRule
  · exact T.o_AboveRule
  · exact T.o_TurnRule
theorem a_name (T : Txt K mg) (r : RuleD) : NoA K r.cls "name" := by
  cases r
  · exact T.a_CellRule_name
  · exact T.a_BesideRule_name
  · exact T.a_AboveRule_name
  · exact T.a_TurnRule_name
theorem a_cost (T : Txt K mg) (r : RuleD) : NoA K r.cls "cost" := by
  cases r
  · exact T.a_CellRule_cost
  · exact T.a_BesideRule_cost
  · exact T.a_AboveRule_cost
  · exact T.a_TurnRule_cost
end
noncomputable def RuleD.short : RuleD → Prop
  | .cell n _ s => n.length ≤ 1000 ∧ s.length ≤ 1000
  | .beside n _ a b => n.length ≤ 1000 ∧ a.length ≤ 1000 ∧ b.length ≤ 1000
  | .above n _ a b => n.length ≤ 1000 ∧ a.length ≤ 1000 ∧ b.length ≤ 1000
  | .turn n _ a _ => n.length ≤ 1000 ∧ a.length ≤ 1000
theorem RuleD.good_short {r : RuleD} (h : r.good = true) : r.short := by
  cases r <;> simp only [RuleD.good, Bool.and_eq_true] at h
  · have := isName_len h.2.2; have := signOk_of h.1; exact ⟨by omega, by omega⟩
  · have := isName_len h.1.2; have := isName_len h.2.1; have := isName_len h.2.2; exact ⟨by omega, by omega, by omega⟩
  · have := isName_len h.1.2; have := isName_len h.2.1; have := isName_len h.2.2; exact ⟨by omega, by omega, by omega⟩
  · have := isName_len h.2.1.2; have := isName_len h.2.2; exact ⟨by omega, by omega⟩
section
variable {X : Cx} {Γ : List Slot} {pos p : Pos} {e : Expr} {es : List Expr} {k : Nat} {n s x y : Tx} {c t : Int}
theorem mkx_cell (T : Txt X.K X.mg) (hr : Room k X.A) (ha : EA X Γ (e :: es) [vl n, vl c, vl s]) (h1 : n.length ≤ 1000) (h2 : s.length ≤ 1000) (hk : autoParam (5 ≤ k) Tw.aDec) (hg : autoParam (Gl X "CellRule") Tw.aRfl) (he : autoParam (starEach (e :: es) X.env = (false, eval e X.env) :: starEach es X.env) Tw.aStar) (hpl : autoParam ((backTo pos (starEach es X.env)).any (·.1) = false) Tw.aPl) :
    EXX X Γ (.Call (.Name "CellRule" p) (e :: es) [] pos) (fun r => r = rv (RuleD.cell n c s) ∧ (RuleD.cell n c s).good = true) (fun y => y = NoRule ∧ (RuleD.cell n c s).good = false) := by
  cases hgd : (RuleD.cell n c s).good with
  | true => exact exx_imp (R := fun _ => False) (exx_makeV (x := RuleD.cell n c s) T.o_CellRule (ok_CellRule_init T) (hr.mono hk) rfl ha (fun C hC ad dx P' R' h _ => ⟨C, ad, dx, n, c, s, rfl, hC, h1, h2, fun _ => h, fun z => by rw [hgd] at z; cases z⟩) hg (by decide) he hpl) (fun r e => ⟨e, rfl⟩) fun _ z => z.elim
  | false => exact exx_imp (P := fun _ => False) (R := fun y => y = NoRule) (exx_make (fs := []) T.o_CellRule (ok_CellRule_init T) (hr.mono hk) ha (fun C hC ad dx P' R' _ h => ⟨C, ad, dx, n, c, s, rfl, hC, h1, h2, fun z => by (rw [hgd] at z; cases z), fun _ => h _ rfl⟩) hg (by decide) he hpl) (fun _ z => z.elim) fun y e => ⟨e, rfl⟩
theorem mkx_beside (T : Txt X.K X.mg) (hr : Room k X.A) (ha : EA X Γ (e :: es) [vl n, vl c, vl x, vl y]) (h1 : n.length ≤ 1000) (h2 : x.length ≤ 1000) (h3 : y.length ≤ 1000) (hk : autoParam (5 ≤ k) Tw.aDec) (hg : autoParam (Gl X "BesideRule") Tw.aRfl) (he : autoParam (starEach (e :: es) X.env = (false, eval e X.env) :: starEach es X.env) Tw.aStar) (hpl : autoParam ((backTo pos (starEach es X.env)).any (·.1) = false) Tw.aPl) :
    EXX X Γ (.Call (.Name "BesideRule" p) (e :: es) [] pos) (fun r => r = rv (RuleD.beside n c x y) ∧ (RuleD.beside n c x y).good = true) (fun z => z = NoRule ∧ (RuleD.beside n c x y).good = false) := by
  cases hgd : (RuleD.beside n c x y).good with
  | true => exact exx_imp (R := fun _ => False) (exx_makeV (x := RuleD.beside n c x y) T.o_BesideRule (ok_BesideRule_init T) (hr.mono hk) rfl ha (fun C hC ad dx P' R' h _ => ⟨C, ad, dx, n, c, x, y, rfl, hC, h1, h2, h3, fun _ => h, fun z => by rw [hgd] at z; cases z⟩) hg (by decide) he hpl) (fun r e => ⟨e, rfl⟩) fun _ z => z.elim
  | false => exact exx_imp (P := fun _ => False) (R := fun y => y = NoRule) (exx_make (fs := []) T.o_BesideRule (ok_BesideRule_init T) (hr.mono hk) ha (fun C hC ad dx P' R' _ h => ⟨C, ad, dx, n, c, x, y, rfl, hC, h1, h2, h3, fun z => by (rw [hgd] at z; cases z), fun _ => h _ rfl⟩) hg (by decide) he hpl) (fun _ z => z.elim) fun y e => ⟨e, rfl⟩
theorem mkx_above (T : Txt X.K X.mg) (hr : Room k X.A) (ha : EA X Γ (e :: es) [vl n, vl c, vl x, vl y]) (h1 : n.length ≤ 1000) (h2 : x.length ≤ 1000) (h3 : y.length ≤ 1000) (hk : autoParam (5 ≤ k) Tw.aDec) (hg : autoParam (Gl X "AboveRule") Tw.aRfl) (he : autoParam (starEach (e :: es) X.env = (false, eval e X.env) :: starEach es X.env) Tw.aStar) (hpl : autoParam ((backTo pos (starEach es X.env)).any (·.1) = false) Tw.aPl) :
    EXX X Γ (.Call (.Name "AboveRule" p) (e :: es) [] pos) (fun r => r = rv (RuleD.above n c x y) ∧ (RuleD.above n c x y).good = true) (fun z => z = NoRule ∧ (RuleD.above n c x y).good = false) := by
  cases hgd : (RuleD.above n c x y).good with
  | true => exact exx_imp (R := fun _ => False) (exx_makeV (x := RuleD.above n c x y) T.o_AboveRule (ok_AboveRule_init T) (hr.mono hk) rfl ha (fun C hC ad dx P' R' h _ => ⟨C, ad, dx, n, c, x, y, rfl, hC, h1, h2, h3, fun _ => h, fun z => by rw [hgd] at z; cases z⟩) hg (by decide) he hpl) (fun r e => ⟨e, rfl⟩) fun _ z => z.elim
  | false => exact exx_imp (P := fun _ => False) (R := fun y => y = NoRule) (exx_make (fs := []) T.o_AboveRule (ok_AboveRule_init T) (hr.mono hk) ha (fun C hC ad dx P' R' _ h => ⟨C, ad, dx, n, c, x, y, rfl, hC, h1, h2, h3, fun z => by (rw [hgd] at z; cases z), fun _ => h _ rfl⟩) hg (by decide) he hpl) (fun _ z => z.elim) fun y e => ⟨e, rfl⟩
theorem mkx_turn (T : Txt X.K X.mg) (hr : Room k X.A) (ha : EA X Γ (e :: es) [vl n, vl c, vl x, vl t]) (h1 : n.length ≤ 1000) (h2 : x.length ≤ 1000) (hk : autoParam (5 ≤ k) Tw.aDec) (hg : autoParam (Gl X "TurnRule") Tw.aRfl) (he : autoParam (starEach (e :: es) X.env = (false, eval e X.env) :: starEach es X.env) Tw.aStar) (hpl : autoParam ((backTo pos (starEach es X.env)).any (·.1) = false) Tw.aPl) :
    EXX X Γ (.Call (.Name "TurnRule" p) (e :: es) [] pos) (fun r => r = rv (RuleD.turn n c x t) ∧ (RuleD.turn n c x t).good = true) (fun z => z = NoRule ∧ (RuleD.turn n c x t).good = false) := by
  cases hgd : (RuleD.turn n c x t).good with
  | true => exact exx_imp (R := fun _ => False) (exx_makeV (x := RuleD.turn n c x t) T.o_TurnRule (ok_TurnRule_init T) (hr.mono hk) rfl ha (fun C hC ad dx P' R' h _ => ⟨C, ad, dx, n, c, x, t, rfl, hC, h1, h2, fun _ => h, fun z => by rw [hgd] at z; cases z⟩) hg (by decide) he hpl) (fun r e => ⟨e, rfl⟩) fun _ z => z.elim
  | false => exact exx_imp (P := fun _ => False) (R := fun y => y = NoRule) (exx_make (fs := []) T.o_TurnRule (ok_TurnRule_init T) (hr.mono hk) ha (fun C hC ad dx P' R' _ h => ⟨C, ad, dx, n, c, x, t, rfl, hC, h1, h2, fun z => by (rw [hgd] at z; cases z), fun _ => h _ rfl⟩) hg (by decide) he hpl) (fun _ z => z.elim) fun y e => ⟨e, rfl⟩
theorem ev_good {e : Expr} {r : RuleD} (h : EXX X Γ e (fun q => q = rv r ∧ r.good = true) (fun y => y = NoRule ∧ r.good = false)) (hg : r.good = true) : EV X Γ e r :=
  ev_of_ex (ex_of_exx (exx_imp h (fun _ z => z.1) fun _ z => by rw [hg] at z; cases z.2))
end
noncomputable def partsS (n : Str) : Tw.Spec := fun A P _ => ∃ (r : RuleD), A = [vl r] ∧ r.cls = n ∧ P (rn r.parts)
section
variable {P : Program} {w : World} {K : PySem.W.Frag} {mg : Str → Option Value} {base : Heap}
theorem ok_CellRule_parts (T : Txt K mg) : HasM P w K mg base 1 "CellRule" "parts" ["self"] (partsS "CellRule") := by
  refine HasM.of T.m_CellRule_parts sc_Rule_parts (fun A Q R ⟨r, e, _⟩ => by rw [e]; rfl) fun f cdv A outer s0 H E hr Γ Q R ⟨r, e, hcl, hq⟩ => ?_
  subst e
  cases r <;> first | exact st_retE (en_lst es_nil) hq | exact absurd hcl (of_decide_eq_false rfl)
theorem ok_BesideRule_parts (T : Txt K mg) : HasM P w K mg base 1 "BesideRule" "parts" ["self"] (partsS "BesideRule") := by
  refine HasM.of T.m_BesideRule_parts sc_BesideRule_parts (fun A Q R ⟨r, e, _⟩ => by rw [e]; rfl) fun f cdv A outer s0 H E hr Γ Q R ⟨r, e, hcl, hq⟩ => ?_
  subst e
  cases r with
  | beside n c x y => exact st_retE (en_lst (es_cons (ev_fld T.o_BesideRule T.a_BesideRule_one hcl rfl (ev_var 0)) (es_cons (ev_fld T.o_BesideRule T.a_BesideRule_other hcl rfl (ev_var 0)) es_nil))) hq
  | _ => exact absurd hcl (of_decide_eq_false rfl)
theorem ok_AboveRule_parts (T : Txt K mg) : HasM P w K mg base 1 "AboveRule" "parts" ["self"] (partsS "AboveRule") := by
  refine HasM.of T.m_AboveRule_parts sc_AboveRule_parts (fun A Q R ⟨r, e, _⟩ => by rw [e]; rfl) fun f cdv A outer s0 H E hr Γ Q R ⟨r, e, hcl, hq⟩ => ?_
  subst e
  cases r with
  | above n c x y => exact st_retE (en_lst (es_cons (ev_fld T.o_AboveRule T.a_AboveRule_one hcl rfl (ev_var 0)) (es_cons (ev_fld T.o_AboveRule T.a_AboveRule_other hcl rfl (ev_var 0)) es_nil))) hq
  | _ => exact absurd hcl (of_decide_eq_false rfl)
theorem ok_TurnRule_parts (T : Txt K mg) : HasM P w K mg base 1 "TurnRule" "parts" ["self"] (partsS "TurnRule") := by
  refine HasM.of T.m_TurnRule_parts sc_TurnRule_parts (fun A Q R ⟨r, e, _⟩ => by rw [e]; rfl) fun f cdv A outer s0 H E hr Γ Q R ⟨r, e, hcl, hq⟩ => ?_
  subst e
  cases r with
  | turn n c x t => exact st_retE (en_lst (es_cons (ev_fld T.o_TurnRule T.a_TurnRule_part hcl rfl (ev_var 0)) es_nil)) hq
  | _ => exact absurd hcl (of_decide_eq_false rfl)
theorem RuleD.f_parts (r : RuleD) : r.flds.lookup ("parts" : Str) = none := by cases r <;> exact lk rfl
theorem ok_parts (T : Txt K mg) (r : RuleD) : HasM P w K mg base 1 r.cls "parts" ["self"] (partsS r.cls) := by
  cases r
  · exact ok_CellRule_parts T
  · exact ok_BesideRule_parts T
  · exact ok_AboveRule_parts T
  · exact ok_TurnRule_parts T
end
theorem list_atI {A : Type} {xs : List A} {n : Int} (h : 0 ≤ n) (h2 : n < xs.length) : ∃ x, atI xs n = some x ∧ x ∈ xs := by
  have hlt : n.toNat < xs.length := by omega
  refine ⟨xs[n.toNat], ?_, List.getElem_mem _⟩
  have := atI_nat (xs := xs) (j := n.toNat) (List.getElem?_eq_getElem hlt)
  rwa [show ((n.toNat : Nat) : Int) = n by omega] at this
noncomputable abbrev Pic := List Tx
structure Pk (p : Pic) (r c : Nat) : Prop where
  len : p.length = r
  row : ∀ x ∈ p, x.length = c
  r0 : 0 < r
  c0 : 0 < c
  r6 : r ≤ 6
  c6 : c ≤ 6
theorem Pk.hd {p : Pic} {r c : Nat} (h : Pk p r c) : ∃ x q, p = x :: q ∧ x.length = c := by
  cases p with
  | nil => have := h.len; have := h.r0; simp at *; omega
  | cons x q => exact ⟨x, q, rfl, h.row x (List.mem_cons_self ..)⟩
theorem Pk.head {p : Pic} {r c : Nat} (h : Pk p r c) : atI p 0 = some (p.headD []) ∧ (p.headD []).length = c := by
  obtain ⟨x, q, rfl, e⟩ := h.hd
  exact ⟨atI_nat (j := 0) rfl, e⟩
noncomputable def quarter (p : Pic) : Pic := (List.range (p.headD []).length).map fun j => p.reverse.map fun row => row.getD j 0
noncomputable def mirrored (p : Pic) : Pic := p.map List.reverse
noncomputable def quarters : Nat → Pic → Pic
  | 0, p => p
  | n + 1, p => quarter (quarters n p)
noncomputable def turned (p : Pic) (t : Nat) : Pic := quarters (t % 4) (if 4 ≤ t then mirrored p else p)
theorem Pk.quarter {p : Pic} {r c : Nat} (h : Pk p r c) : Pk (quarter p) c r := by
  have hl := h.head.2
  refine ⟨by unfold Law.quarter; rw [List.length_map, List.length_range, hl], fun x hx => ?_, h.c0, h.r0, h.c6, h.r6⟩
  unfold Law.quarter at hx
  obtain ⟨j, _, rfl⟩ := List.mem_map.mp hx
  rw [List.length_map, List.length_reverse, h.len]
theorem Pk.mirrored {p : Pic} {r c : Nat} (h : Pk p r c) : Pk (mirrored p) r c := by
  refine ⟨by unfold Law.mirrored; rw [List.length_map, h.len], fun x hx => ?_, h.r0, h.c0, h.r6, h.c6⟩
  unfold Law.mirrored at hx
  obtain ⟨y, hy, rfl⟩ := List.mem_map.mp hx
  rw [List.length_reverse, h.row y hy]
theorem Pk.quarters {p : Pic} {r c : Nat} (h : Pk p r c) : ∀ n, Pk (quarters n p) (if n % 2 = 0 then r else c) (if n % 2 = 0 then c else r)
  | 0 => h
  | n + 1 => by
    have ih := (Pk.quarters h n).quarter
    by_cases e : n % 2 = 0
    · rw [if_pos e, if_pos e] at ih
      rw [if_neg (by omega), if_neg (by omega)]
      exact ih
    · rw [if_neg e, if_neg e] at ih
      rw [if_pos (by omega), if_pos (by omega)]
      exact ih
theorem Pk.turned {p : Pic} {r c : Nat} (h : Pk p r c) (t : Nat) : Pk (turned p t) (if t % 2 = 0 then r else c) (if t % 2 = 0 then c else r) := by
  unfold Law.turned
  have e : (t % 4) % 2 = t % 2 := by omega
  split
  · have := h.mirrored.quarters (t % 4)
    rwa [e] at this
  · have := h.quarters (t % 4)
    rwa [e] at this
noncomputable def quarterS : Tw.Spec := fun A P _ => ∃ (p : Pic) (r c : Nat), A = [vl p] ∧ Pk p r c ∧ P (rn (quarter p))
noncomputable def mirroredS : Tw.Spec := fun A P _ => ∃ (p : Pic) (r c : Nat), A = [vl p] ∧ Pk p r c ∧ P (rn (mirrored p))
noncomputable def turnedS : Tw.Spec := fun A P _ => ∃ (p : Pic) (r c : Nat) (t : Int), A = [vl p, vl t] ∧ Pk p r c ∧ 0 ≤ t ∧ P (rn (turned p t.toNat))
theorem sl6 {n : Nat} (h : n ≤ 6) : n ≤ sizeLine := Nat.le_trans h (by decide)
noncomputable def PicOk (p : Pic) : Prop := ∀ x ∈ p, TxOk x
section
variable {P : Program} {w : World} {K : PySem.W.Frag} {mg : Str → Option Value} {base : Heap}
theorem ok_quarter (T : Txt K mg) : Has P w K mg base 1 "quarter" ["picture"] quarterS := by
  refine Has.of T.f_quarter sc_quarter (fun A Q R ⟨p, r, c, e, _⟩ => by rw [e]; rfl) fun f cdv A outer s H E hr Γ Q R ⟨p, r, c, e, hp, hq⟩ => ?_
  subst e
  obtain ⟨h0, h1⟩ := hp.head
  have hc6 := hp.c6
  have hr6 := hp.r6
  -- rows = []
  refine st_setN 1 (en_nil Tx) (fun ad => ?_) sc_quarter.nd
  -- for column in range(len(picture[0])):
  refine st_for (xs := rng 0 ((p.headD []).length : Int).toNat) (fun k Γ => Le Γ [vl p, ls ad ((quarter p).take k), .no, .no]) (src_range T.b_range (ev_lenS T.b_len (ev_ixL (ev_var 0) ev_int h0) (sl6 (by rw [h1]; exact hp.c6))) (by omega) (by rw [h1]; omega)) (tg_name 2) Le.refl
    (fun k x Γ' hk hP => ?_) (fun Γ' hP => ?_) (pgn 2 sc_quarter.nd)
  · obtain ⟨hlt, rfl⟩ := rng_get0 hk
    refine st_le (Le.set hP 2 _) ?_
    have hkc : k < (p.headD []).length := by simpa using hlt
    have hk6 : k < 6 := by omega
    refine st_append 1 (ev_join (ev_str "") (ev_of_en (en_lc (α := Tx) (β := Tx) (own := [("row", 3)]) (f := fun row => [row.getD k 0]) (src_rev T.b_reversed (ev_var 0)) (tg_name 3) (fun _ _ _ _ _ => pgn 3 sc_quarter.nd)
      (fun x hx _ _ _ _ _ => ev_ixS (ev_var 3) (ev_var 2) ?_ ?_) sc_quarter.nd (ok := bk_quarter (by decide +kernel)) (hz := ?_))) ?_) (st_nil ?_) ?_
    · have := hp.row x (by simpa using hx)
      rw [List.getD_eq_getElem?_getD, List.getElem?_eq_getElem (by omega)]
      exact atI_nat (List.getElem?_eq_getElem (by omega))
    · rw [hp.row x (by simpa using hx)]; exact sl6 hp.c6
    · rw [List.length_reverse, hp.len]; exact sl6 hp.r6
    · show _ + _ * 0 ≤ _
      rw [sum_ones, List.length_reverse, hp.len]
      omega
    · have e1 : (quarter p)[k]? = some (p.reverse.map fun row => row.getD k 0) := by
        unfold quarter
        rw [List.getElem?_map, List.getElem?_range hkc]; rfl
      show Le _ _
      rw [take_snoc e1, ← joinOnes]
      exact le_cons (le_cons (le_no (le_no le_nil)))
    · rw [List.length_take]
      exact lt_line (by omega)
  · refine st_le hP (st_retL 1 ?_)
    rw [rng_len, List.take_of_length_le (by unfold quarter; rw [List.length_map, List.length_range]; omega)]
    exact hq
theorem ok_mirrored (T : Txt K mg) : Has P w K mg base 1 "mirrored" ["picture"] mirroredS := by
  refine Has.of T.f_mirrored sc_mirrored (fun A Q R ⟨p, r, c, e, _⟩ => by rw [e]; rfl) fun f cdv A outer s H E hr Γ Q R ⟨p, r, c, e, hp, hq⟩ => ?_
  subst e
  have hc6 := hp.c6
  have hr6 := hp.r6
  refine st_retE (en_lc (α := Tx) (β := Tx) (own := [("row", 1)]) (f := List.reverse) (src_list (ev_var 0)) (tg_name 1) (fun _ _ _ _ _ => pgn 1 sc_mirrored.nd)
    (fun x hx _ _ _ _ _ => ev_joinRev T.b_reversed (ev_str "") (ev_var 1) ?_) sc_mirrored.nd (ok := bk_mirrored (by decide +kernel)) (hz := ?_)) hq
  · rw [hp.row x hx]; omega
  · rw [hp.len]; exact sl6 hr6
theorem ok_turned (T : Txt K mg) : Has P w K mg base 2 "turned" ["picture", "t"] turnedS := by
  refine Has.of T.f_turned sc_turned (fun A Q R ⟨p, r, c, t, e, _⟩ => by rw [e]; rfl) fun f cdv A outer s H E hr Γ Q R ⟨p, r, c, t, e, hp, ht, hq⟩ => ?_
  subst e
  have hc6 := hp.c6
  have hr6 := hp.r6
  -- seen = list(picture)
  refine st_setN 2 (en_list T.b_list (ev_var 0)) (fun a0 => ?_) sc_turned.nd
  -- if t >= MIRROR:
  have go : ∀ (q : Pic) (a1 : Addr), q = (if 4 ≤ t.toNat then mirrored p else p) → Tw.ST (cxOf (L2.CX P w) P w K mg base N_turned "turned" (defScope s_turned) f cdv A outer s H E).nox ((defBody s_turned).drop 2) [vl p, vl t, ls a1 q, .no] (fin Q) := by
    intro q a1 eq
    obtain ⟨r', c', hq'⟩ : ∃ r' c', Pk q r' c' := by
      rw [eq]; split
      · exact ⟨_, _, hp.mirrored⟩
      · exact ⟨_, _, hp⟩
    -- for turn in range(t % MIRROR):
    refine st_for (xs := rng 0 (t % 4).toNat) (fun k Γ => ∃ ad, Le Γ [vl p, vl t, ls ad (quarters k q), .no]) (src_range T.b_range (ev_bin (o_mod (by decide)) (ev_var 1) (ev_gintE T.c_MIRROR)) (by omega) (by omega)) (tg_name 3) ⟨a1, Le.refl⟩
      (fun k x Γ' hk hP => ?_) (fun Γ' hP => ?_) (pgn 3 sc_turned.nd)
    · obtain ⟨ad, hP⟩ := hP
      refine st_le (Le.set hP 3 _) ?_
      refine st_setN 2 (en_lend 2 (en_call (ok_quarter T) (hr.mono (by decide)) (ea_cons (ev_var 2) ea_nil) fun P R h => ⟨_, _, _, rfl, hq'.quarters k, h⟩)) (fun a2 => st_nil ⟨a2, ?_⟩) sc_turned.nd
      exact le_cons (le_cons (le_cons (le_no le_nil)))
    · obtain ⟨ad, hP⟩ := hP
      refine st_le hP (st_retL 2 ?_)
      rw [rng_len]
      unfold turned at hq
      rw [← eq, show t.toNat % 4 = (t % 4).toNat by omega] at hq
      exact hq
  refine st_if (et_cmp o_ge (ev_var 1) (ev_gintE T.c_MIRROR)) (fun h => ?_) (fun h => ?_)
  · refine st_setN 2 (en_lend 2 (en_call (ok_mirrored T) (hr.mono (by decide)) (ea_cons (ev_var 2) ea_nil) fun P R h => ⟨_, _, _, rfl, hp, h⟩)) (fun a1 => st_nil ?_) sc_turned.nd
    refine go _ _ ?_
    rw [if_pos (by have := of_decide_eq_true h; omega)]
  · refine st_nil (go _ _ ?_)
    rw [if_neg (by have := of_decide_eq_false h; omega)]
end
noncomputable def fits (s : Bool) (r c r' c' : Nat) : Bool := if s then decide (r = r') && decide (c + c' ≤ 6) else decide (c = c') && decide (r + r' ≤ 6)
noncomputable def putT (s : Bool) (p q : Pic) : Pic := if s then List.zipWith (· ++ ·) p q else p ++ q
noncomputable def partA (s : Bool) (p : Pic) (n : Nat) : Pic := if s then p.map (List.take n) else p.take n
noncomputable def partB (s : Bool) (p : Pic) (n : Nat) : Pic := if s then p.map (List.drop n) else p.drop n
noncomputable def NoFit : Exn := ⟨"NoFit", "", .no⟩
noncomputable def besideS : Tw.Spec := fun A P R => ∃ (p q : Pic) (r c r' c' : Nat), A = [vl p, vl q] ∧ Pk p r c ∧ Pk q r' c' ∧ (fits true r c r' c' = true → P (rn (putT true p q))) ∧ (fits true r c r' c' = false → R NoFit)
noncomputable def aboveS : Tw.Spec := fun A P R => ∃ (p q : Pic) (r c r' c' : Nat), A = [vl p, vl q] ∧ Pk p r c ∧ Pk q r' c' ∧ (fits false r c r' c' = true → P (rn (putT false p q))) ∧ (fits false r c r' c' = false → R NoFit)
theorem zip_map {A B C : Type} (f : A → B → C) : ∀ (xs : List A) (ys : List B), (xs.zip ys).map (fun x => f x.1 x.2) = List.zipWith f xs ys
  | [], _ => by simp
  | _ :: _, [] => by simp
  | x :: xs, y :: ys => by
    rw [List.zip_cons_cons, List.map_cons, zip_map f xs ys, List.zipWith_cons_cons]
section
variable {P : Program} {w : World} {K : PySem.W.Frag} {mg : Str → Option Value} {base : Heap}
theorem ok_beside (T : Txt K mg) : Has P w K mg base 1 "beside" ["one", "other"] besideS := by
  refine Has.ofX T.f_beside sc_beside (fun A Q R ⟨p, q, r, c, r', c', e, _⟩ => by rw [e]; rfl) fun f cdv A outer s H E hr Γ Q R ⟨p, q, r, c, r', c', e, hp, hq, h1, h2⟩ => ?_
  subst e
  obtain ⟨hp0, hp1⟩ := hp.head
  obtain ⟨hq0, hq1⟩ := hq.head
  have hr6 := hp.r6
  have hc6 := hp.c6
  have hc6' := hq.c6
  have hr6' := hq.r6
  refine st_if (et_or (et_cmp o_ne (ev_eq (y := (r : Int)) (ev_len T.b_len (ev_var 0)) (by rw [hp.len])) (ev_eq (y := (r' : Int)) (ev_len T.b_len (ev_var 1)) (by rw [hq.len])))
    fun _ => et_cmp o_gt (ev_bin o_add (ev_eq (y := (c : Int)) (ev_lenS T.b_len (ev_ixL (ev_var 0) ev_int hp0) (sl6 (by omega))) (by rw [hp1])) (ev_eq (y := (c' : Int)) (ev_lenS T.b_len (ev_ixL (ev_var 1) ev_int hq0) (sl6 (by omega))) (by rw [hq1]))) (ev_gintE T.c_MOST)) (fun h => ?_) (fun h => st_nil ?_)
  · refine st_raise0 T.x_NoFit T.p_NoFit (h2 ?_)
    unfold fits
    rw [if_pos rfl]
    simp at h ⊢
    omega
  · have hf : fits true r c r' c' = true := by
      unfold fits
      rw [if_pos rfl]
      simp at h ⊢
      omega
    refine st_retE (en_eq (en_lc (α := Tx × Tx) (β := Tx) (own := [("left", 2), ("right", 3)]) (f := fun x => x.1 ++ x.2) (src_zip T.b_zip (ev_var 0) (ev_var 1)) (tg_pair 2 3 (by decide)) (fun _ _ _ _ _ => pg2 2 3 (pgn 2 sc_beside.nd) (pgn 3 sc_beside.nd))
      (fun x hx _ _ _ _ _ => ev_bin (o_addS ?_) (ev_var 2) (ev_var 3)) sc_beside.nd (ok := bk_beside (by decide +kernel)) (hz := ?_)) (zip_map (· ++ ·) p q)) (h1 hf)
    · have := hp.row _ (List.of_mem_zip hx).1
      have := hq.row _ (List.of_mem_zip hx).2
      exact sl_small (by omega)
    · rw [List.length_zip, hp.len]; exact sl_small (by omega)
theorem ok_above (T : Txt K mg) : Has P w K mg base 1 "above" ["one", "other"] aboveS := by
  refine Has.ofX T.f_above sc_above (fun A Q R ⟨p, q, r, c, r', c', e, _⟩ => by rw [e]; rfl) fun f cdv A outer s H E hr Γ Q R ⟨p, q, r, c, r', c', e, hp, hq, h1, h2⟩ => ?_
  subst e
  obtain ⟨hp0, hp1⟩ := hp.head
  obtain ⟨hq0, hq1⟩ := hq.head
  have hr6 := hp.r6
  have hc6 := hp.c6
  have hc6' := hq.c6
  have hr6' := hq.r6
  refine st_if (et_or (et_cmp o_ne (ev_eq (y := (c : Int)) (ev_lenS T.b_len (ev_ixL (ev_var 0) ev_int hp0) (sl6 (by omega))) (by rw [hp1])) (ev_eq (y := (c' : Int)) (ev_lenS T.b_len (ev_ixL (ev_var 1) ev_int hq0) (sl6 (by omega))) (by rw [hq1])))
    fun _ => et_cmp o_gt (ev_bin o_add (ev_eq (y := (r : Int)) (ev_len T.b_len (ev_var 0)) (by rw [hp.len])) (ev_eq (y := (r' : Int)) (ev_len T.b_len (ev_var 1)) (by rw [hq.len]))) (ev_gintE T.c_MOST)) (fun h => ?_) (fun h => st_nil ?_)
  · refine st_raise0 T.x_NoFit T.p_NoFit (h2 ?_)
    unfold fits
    rw [if_neg (by decide)]
    simp at h ⊢
    omega
  · have hf : fits false r c r' c' = true := by
      unfold fits
      rw [if_neg (by decide)]
      simp at h ⊢
      omega
    exact st_retE (en_addL (ev_var 0) (ev_var 1) (by rw [hp.len, hq.len]; exact sl_small (by omega))) (h1 hf)
end
theorem Pk.put {s : Bool} {p q : Pic} {r c r' c' : Nat} (hp : Pk p r c) (hq : Pk q r' c') (h : fits s r c r' c' = true) : ∃ r2 c2, Pk (putT s p q) r2 c2 := by
  have hr := hp.r6
  have hc := hp.c6
  have hr0 := hp.r0
  have hc0 := hp.c0
  unfold fits at h
  unfold putT
  cases s with
  | true =>
    simp only [if_true, Bool.and_eq_true, decide_eq_true_eq] at h ⊢
    refine ⟨r, c + c', ?_, fun x hx => ?_, hr0, by omega, hr, by omega⟩
    · rw [List.length_zipWith, hp.len, hq.len]; omega
    · rw [← zip_map] at hx
      obtain ⟨y, hy, rfl⟩ := List.mem_map.mp hx
      rw [List.length_append, hp.row _ (List.of_mem_zip hy).1, hq.row _ (List.of_mem_zip hy).2]
  | false =>
    simp only [Bool.false_eq_true, if_false, Bool.and_eq_true, decide_eq_true_eq] at h ⊢
    refine ⟨r + r', c, ?_, fun x hx => ?_, by omega, hc0, by omega, hc⟩
    · rw [List.length_append, hp.len, hq.len]
    · rcases List.mem_append.mp hx with z | z
      · exact hp.row x z
      · rw [hq.row x z]; exact h.1.symm
theorem PicOk.put {s : Bool} {p q : Pic} (hp : PicOk p) (hq : PicOk q) : PicOk (putT s p q) := by
  unfold putT
  cases s with
  | true =>
    simp only [if_true]
    intro x hx
    rw [← zip_map] at hx
    obtain ⟨y, hy, rfl⟩ := List.mem_map.mp hx
    intro c hc
    rcases List.mem_append.mp hc with z | z
    · exact hp _ (List.of_mem_zip hy).1 c z
    · exact hq _ (List.of_mem_zip hy).2 c z
  | false =>
    simp only [Bool.false_eq_true, if_false]
    intro x hx
    rcases List.mem_append.mp hx with z | z
    · exact hp x z
    · exact hq x z
theorem PicOk.mirrored {p : Pic} (h : PicOk p) : PicOk (mirrored p) := fun x hx => by
  obtain ⟨y, hy, rfl⟩ := List.mem_map.mp hx
  exact fun c hc => h y hy c (List.mem_reverse.mp hc)
theorem PicOk.quarter {p : Pic} (h : PicOk p) : PicOk (quarter p) := fun x hx => by
  obtain ⟨j, _, rfl⟩ := List.mem_map.mp hx
  intro c hc
  obtain ⟨row, hr, rfl⟩ := List.mem_map.mp hc
  exact getD_ok (h row (List.mem_reverse.mp hr)) j
theorem PicOk.turned {p : Pic} (h : PicOk p) (t : Nat) : PicOk (turned p t) := by
  have go : ∀ n (q : Pic), PicOk q → PicOk (quarters n q) := fun n q hq => by
    induction n with
    | zero => exact hq
    | succ n ih => exact ih.quarter
  unfold Law.turned
  refine go _ _ ?_
  split
  · exact h.mirrored
  · exact h
noncomputable def PicIn (p : Pic) : Prop := ∃ r c, Pk p r c
noncomputable def fitsP (s : Bool) (p q : Pic) : Bool := fits s p.length (p.headD []).length q.length (q.headD []).length
noncomputable def RuleD.made (r : RuleD) (ps : List Pic) : Option Pic := match r with
  | .cell _ _ s => some [s]
  | .beside .. => if fitsP true (ps.getD 0 []) (ps.getD 1 []) then some (putT true (ps.getD 0 []) (ps.getD 1 [])) else none
  | .above .. => if fitsP false (ps.getD 0 []) (ps.getD 1 []) then some (putT false (ps.getD 0 []) (ps.getD 1 [])) else none
  | .turn _ _ _ t => some (turned (ps.getD 0 []) t.toNat)
noncomputable def RuleD.turnOk : RuleD → Prop
  | .turn _ _ _ t => 0 ≤ t
  | _ => True
noncomputable def madeS (n : Str) : Tw.Spec := fun A P R => ∃ (r : RuleD) (ps : List Pic), A = [vl r, vl ps] ∧ r.cls = n ∧ r.turnOk ∧ ps.length = r.parts.length ∧ (∀ p ∈ ps, PicIn p) ∧ (∀ p, r.made ps = some p → P (rn p)) ∧ (r.made ps = none → R NoFit)
theorem PicIn.fits {p q : Pic} {s : Bool} {r c r' c' : Nat} (hp : Pk p r c) (hq : Pk q r' c') : fitsP s p q = Law.fits s r c r' c' := by
  unfold fitsP
  rw [hp.len, hq.len, hp.head.2, hq.head.2]
theorem two_of {A : Type} {xs : List A} (h : xs.length = 2) : ∃ a b, xs = [a, b] := by
  match xs, h with
  | [a, b], _ => exact ⟨a, b, rfl⟩
theorem one_of {A : Type} {xs : List A} (h : xs.length = 1) : ∃ a, xs = [a] := by
  match xs, h with
  | [a], _ => exact ⟨a, rfl⟩
theorem RuleD.f_made (r : RuleD) : r.flds.lookup ("made" : Str) = none := by cases r <;> exact lk rfl
section
variable {P : Program} {w : World} {K : PySem.W.Frag} {mg : Str → Option Value} {base : Heap}
theorem ok_CellRule_made (T : Txt K mg) : HasM P w K mg base 4 "CellRule" "made" ["self", "pictures"] (madeS "CellRule") := by
  refine HasM.of T.m_CellRule_made sc_CellRule_made (fun A Q R ⟨r, ps, e, _⟩ => by rw [e]; rfl) fun f cdv A outer s0 H E hr Γ Q R ⟨r, ps, e, hcl, ht, hl, hp, h1, h2⟩ => ?_
  subst e
  cases r with
  | cell n c s => exact st_retE (en_lst (es_cons (ev_fld (y := s) T.o_CellRule T.a_CellRule_sign hcl rfl (ev_var 0)) es_nil)) (h1 _ rfl)
  | _ => exact absurd hcl (of_decide_eq_false rfl)
theorem ok_BesideRule_made (T : Txt K mg) : HasM P w K mg base 4 "BesideRule" "made" ["self", "pictures"] (madeS "BesideRule") := by
  refine HasM.of T.m_BesideRule_made sc_BesideRule_made (fun A Q R ⟨r, ps, e, _⟩ => by rw [e]; rfl) fun f cdv A outer s0 H E hr Γ Q R ⟨r, ps, e, hcl, ht, hl, hp, h1, h2⟩ => ?_
  subst e
  cases r with
  | beside n c x y =>
    obtain ⟨p, q, rfl⟩ := two_of hl
    obtain ⟨r1, c1, k1⟩ := hp p (by simp)
    obtain ⟨r2, c2, k2⟩ := hp q (by simp)
    have hf := PicIn.fits (s := true) k1 k2
    refine st_retX (P := fun x => x = rn (putT true p q) ∧ fitsP true p q = true) (R := fun y => y = NoFit ∧ fitsP true p q = false) (exx_call (ok_beside T) (hr.mono (by decide)) (ea_cons (ev_ixL (xs := [p, q]) (ev_var 1) ev_int (atI_nat (j := 0) rfl)) (ea_cons (ev_ixL (xs := [p, q]) (ev_var 1) ev_int (atI_nat (j := 1) rfl)) ea_nil)) fun P' R' g1 g2 => ⟨p, q, _, _, _, _, rfl, k1, k2, fun z => g1 _ ⟨rfl, by rw [hf]; exact z⟩, fun z => g2 _ ⟨rfl, by rw [hf]; exact z⟩⟩) (fun x ⟨e, z⟩ => e ▸ h1 _ ?_) (fun y ⟨e, z⟩ => e ▸ h2 ?_)
    · show (if fitsP true p q then some (putT true p q) else none) = _
      rw [if_pos z]
    · show (if fitsP true p q then some (putT true p q) else none) = _
      rw [if_neg (by rw [z]; decide)]
  | _ => exact absurd hcl (of_decide_eq_false rfl)
theorem ok_AboveRule_made (T : Txt K mg) : HasM P w K mg base 4 "AboveRule" "made" ["self", "pictures"] (madeS "AboveRule") := by
  refine HasM.of T.m_AboveRule_made sc_AboveRule_made (fun A Q R ⟨r, ps, e, _⟩ => by rw [e]; rfl) fun f cdv A outer s0 H E hr Γ Q R ⟨r, ps, e, hcl, ht, hl, hp, h1, h2⟩ => ?_
  subst e
  cases r with
  | above n c x y =>
    obtain ⟨p, q, rfl⟩ := two_of hl
    obtain ⟨r1, c1, k1⟩ := hp p (by simp)
    obtain ⟨r2, c2, k2⟩ := hp q (by simp)
    have hf := PicIn.fits (s := false) k1 k2
    refine st_retX (P := fun x => x = rn (putT false p q) ∧ fitsP false p q = true) (R := fun y => y = NoFit ∧ fitsP false p q = false) (exx_call (ok_above T) (hr.mono (by decide)) (ea_cons (ev_ixL (xs := [p, q]) (ev_var 1) ev_int (atI_nat (j := 0) rfl)) (ea_cons (ev_ixL (xs := [p, q]) (ev_var 1) ev_int (atI_nat (j := 1) rfl)) ea_nil)) fun P' R' g1 g2 => ⟨p, q, _, _, _, _, rfl, k1, k2, fun z => g1 _ ⟨rfl, by rw [hf]; exact z⟩, fun z => g2 _ ⟨rfl, by rw [hf]; exact z⟩⟩) (fun x ⟨e, z⟩ => e ▸ h1 _ ?_) (fun y ⟨e, z⟩ => e ▸ h2 ?_)
    · show (if fitsP false p q then some (putT false p q) else none) = _
      rw [if_pos z]
    · show (if fitsP false p q then some (putT false p q) else none) = _
      rw [if_neg (by rw [z]; decide)]
  | _ => exact absurd hcl (of_decide_eq_false rfl)
theorem ok_TurnRule_made (T : Txt K mg) : HasM P w K mg base 4 "TurnRule" "made" ["self", "pictures"] (madeS "TurnRule") := by
  refine HasM.of T.m_TurnRule_made sc_TurnRule_made (fun A Q R ⟨r, ps, e, _⟩ => by rw [e]; rfl) fun f cdv A outer s0 H E hr Γ Q R ⟨r, ps, e, hcl, ht, hl, hp, h1, h2⟩ => ?_
  subst e
  cases r with
  | turn n c x t =>
    obtain ⟨p, rfl⟩ := one_of hl
    obtain ⟨r1, c1, k1⟩ := hp p (by simp)
    exact st_retE (en_call (ok_turned T) (hr.mono (by decide)) (ea_cons (ev_ixL (xs := [p]) (ev_var 1) ev_int (atI_nat (j := 0) rfl)) (ea_cons (ev_fld (y := t) T.o_TurnRule T.a_TurnRule_turning hcl rfl (ev_var 0)) ea_nil)) fun P R h => ⟨p, _, _, t, rfl, k1, ht, h⟩) (h1 _ rfl)
  | _ => exact absurd hcl (of_decide_eq_false rfl)
theorem ok_made (T : Txt K mg) (r : RuleD) : HasM P w K mg base 4 r.cls "made" ["self", "pictures"] (madeS r.cls) := by
  cases r
  · exact ok_CellRule_made T
  · exact ok_BesideRule_made T
  · exact ok_AboveRule_made T
  · exact ok_TurnRule_made T
end
structure GramD where
  signs : Tx
  start : Tx
  rules : List RuleD
  names : List Tx
noncomputable def GramD.flds (g : GramD) : List (Str × Slot) := [("signs", vl g.signs), ("start", vl g.start), ("kept_rules", vl g.rules), ("kept_names", vl g.names)]
noncomputable instance : Inst GramD := ⟨fun _ => "Grammar", GramD.flds⟩
noncomputable def signsOk (x : Tx) : Bool := (decide (1 ≤ x.length) && decide (x.length ≤ 4)) && (decide x.Nodup && x.all fun c => decide (c ∈ smallTx))
theorem signsOk_len {x : Tx} (h : signsOk x = true) : 1 ≤ x.length ∧ x.length ≤ 4 := by
  unfold signsOk at h
  simp only [Bool.and_eq_true, decide_eq_true_eq] at h
  exact h.1
noncomputable def addNew (met : List Tx) (n : Tx) : List Tx := if n ∈ met then met else met ++ [n]
noncomputable def metR (met : List Tx) (r : RuleD) : List Tx := (r.name :: r.parts).foldl addNew met
noncomputable def metL (start : Tx) (rs : List RuleD) : List Tx := rs.foldl metR [start]
theorem addNew_len (met : List Tx) (n : Tx) : (addNew met n).length ≤ met.length + 1 := by
  unfold addNew
  split
  · omega
  · rw [List.length_append]; exact Nat.le_refl _
theorem addAll_len : ∀ (ns met : List Tx), (ns.foldl addNew met).length ≤ met.length + ns.length
  | [], met => Nat.le_refl _
  | n :: ns, met => by
    have h1 := addAll_len ns (addNew met n)
    have h2 := addNew_len met n
    rw [List.foldl_cons, List.length_cons]
    omega
theorem RuleD.parts_len (r : RuleD) : r.parts.length ≤ 2 := by cases r <;> simp [RuleD.parts]
theorem metR_len (met : List Tx) (r : RuleD) : (metR met r).length ≤ met.length + 3 := by
  have h := addAll_len (r.name :: r.parts) met
  have := r.parts_len
  rw [List.length_cons] at h
  unfold metR
  omega
theorem metAll_len : ∀ (rs : List RuleD) (met : List Tx), (rs.foldl metR met).length ≤ met.length + 3 * rs.length
  | [], met => by simp
  | r :: rs, met => by
    have h1 := metAll_len rs (metR met r)
    have h2 := metR_len met r
    rw [List.foldl_cons, List.length_cons]
    omega
theorem metL_len (start : Tx) (rs : List RuleD) : (metL start rs).length ≤ 1 + 3 * rs.length := metAll_len rs [start]
theorem metL_take {start : Tx} {rs : List RuleD} {k : Nat} {r : RuleD} (h : rs[k]? = some r) : metL start (rs.take (k + 1)) = metR (metL start (rs.take k)) r := by
  unfold metL
  rw [List.take_add_one, h, List.foldl_append]
  rfl
theorem fold_take {ns met : List Tx} {k : Nat} {n : Tx} (h : ns[k]? = some n) : (ns.take (k + 1)).foldl addNew met = addNew ((ns.take k).foldl addNew met) n := by
  rw [List.take_add_one, h, List.foldl_append]
  rfl
theorem addNew_mem {met : List Tx} {n x : Tx} : x ∈ addNew met n ↔ x ∈ met ∨ x = n := by
  unfold addNew
  split
  · rename_i h
    exact ⟨.inl, fun z => z.elim id fun e => e ▸ h⟩
  · rw [List.mem_append, List.mem_singleton]
theorem addAll_mem {x : Tx} : ∀ {ns met : List Tx}, x ∈ ns.foldl addNew met ↔ x ∈ met ∨ x ∈ ns
  | [], met => by simp
  | n :: ns, met => by
    rw [List.foldl_cons, addAll_mem, addNew_mem, List.mem_cons]
    exact ⟨fun h => h.elim (fun h => h.elim .inl fun e => .inr (.inl e)) fun h => .inr (.inr h), fun h => h.elim (fun h => .inl (.inl h)) fun h => h.elim (fun e => .inl (.inr e)) .inr⟩
theorem metAll_mem {x : Tx} : ∀ {rs : List RuleD} {met : List Tx}, x ∈ rs.foldl metR met ↔ x ∈ met ∨ ∃ r ∈ rs, x ∈ r.name :: r.parts
  | [], met => by simp
  | r :: rs, met => by
    rw [List.foldl_cons, metAll_mem]
    unfold metR
    rw [addAll_mem]
    constructor
    · rintro ((h | h) | ⟨q, hq, h⟩)
      · exact .inl h
      · exact .inr ⟨r, List.mem_cons_self .., h⟩
      · exact .inr ⟨q, List.mem_cons_of_mem _ hq, h⟩
    · rintro (h | ⟨q, hq, h⟩)
      · exact .inl (.inl h)
      · rcases List.mem_cons.mp hq with rfl | hq
        · exact .inl (.inr h)
        · exact .inr ⟨q, hq, h⟩
noncomputable def RuleD.signIn (signs : Tx) : RuleD → Bool
  | .cell _ _ s => decide (s.headD 0 ∈ signs)
  | _ => true
noncomputable def badSign (signs : Tx) : Nat → List RuleD → Option Nat
  | _, [] => none
  | k, r :: rs => if r.signIn signs then badSign signs (k + 1) rs else some k
noncomputable def whyRules (signs : Tx) (rs : List RuleD) : Option Why := if 24 < rs.length then some ⟨tx "rules", [(rs.length : Int)]⟩ else (badSign signs 0 rs).map fun (k : Nat) => ⟨tx "sign", [(k : Int)]⟩
noncomputable def whyG (signs start : Tx) (rs : List RuleD) : Option Why :=
  if signsOk signs = false then some ⟨tx "signs", []⟩ else
  if isName start = false then some ⟨tx "start", []⟩ else
  match whyRules signs rs with
  | some y => some y
  | none => if 8 < (metL start rs).length then some ⟨tx "names", [((metL start rs).length : Int)]⟩ else none
noncomputable def NoGram (y : Why) : Exn := ⟨"NoGrammar", "why", vl y⟩
noncomputable def NoNameX : Exn := ⟨"NoName", "", .no⟩
noncomputable def mkG (signs start : Tx) (rs : List RuleD) : GramD := ⟨signs, start, rs, metL start rs⟩
noncomputable def numbersL (n : Tx) (rs : List RuleD) : List Int := ((enumL rs).filter fun x => decide (x.2.name = n)).map (·.1)
structure GramD.Ok (g : GramD) : Prop where
  sg : signsOk g.signs = true
  st : isName g.start = true
  rs : ∀ r ∈ g.rules, r.good = true
  many : g.rules.length ≤ 24
  nm : g.names = metL g.start g.rules
  n8 : g.names.length ≤ 8
theorem mkG_ok {signs start : Tx} {rs : List RuleD} (hg : ∀ r ∈ rs, r.good = true) (h : whyG signs start rs = none) : (mkG signs start rs).Ok := by
  unfold whyG at h
  split at h
  · cases h
  split at h
  · cases h
  rename_i h1 h2
  cases hw : whyRules signs rs with
  | some y => rw [hw] at h; cases h
  | none =>
    rw [hw] at h
    have h : (if 8 < (metL start rs).length then some (⟨tx "names", [((metL start rs).length : Int)]⟩ : Why) else none) = none := h
    split at h
    · cases h
    rename_i h3
    unfold whyRules at hw
    split at hw
    · cases hw
    rename_i h4
    exact ⟨(by cases q : signsOk signs with
      | true => exact q
      | false => exact absurd q h1), (by cases q : isName start with
      | true => exact q
      | false => exact absurd q h2), hg, by show rs.length ≤ 24; omega, rfl, by show (metL start rs).length ≤ 8; omega⟩
noncomputable def signsS : Tw.Spec := fun A P _ => ∃ (x : Tx), A = [vl x] ∧ x.length ≤ 1000 ∧ P (rv (signsOk x))
noncomputable def metS : Tw.Spec := fun A P _ => ∃ (start : Tx) (rs : List RuleD), A = [vl start, vl rs] ∧ rs.length ≤ 100 ∧ P (rn (metL start rs))
noncomputable def askedRS : Tw.Spec := fun A P R => ∃ (signs : Tx) (rs : List RuleD), A = [vl signs, vl rs] ∧ (∀ r ∈ rs, r.good = true) ∧ (whyRules signs rs = none → P (rv ())) ∧ (∀ y, whyRules signs rs = some y → R (NoGram y))
noncomputable def gramS (K : PySem.W.Frag) : Tw.Spec := fun A P R => ∃ (C a dx : Addr) (signs start : Tx) (rs : List RuleD), A = [.own (ownI C a dx []), vl signs, vl start, vl rs] ∧ PySem.W.nsIn K mainGlobals "Grammar" = some (some (.ref C)) ∧ signs.length ≤ 1000 ∧ start.length ≤ 1000 ∧ rs.length ≤ 1000 ∧ (∀ r ∈ rs, r.good = true) ∧
  (whyG signs start rs = none → P (.chg repUnit () [ownI C a dx (mkG signs start rs).flds])) ∧ (∀ y, whyG signs start rs = some y → R (NoGram y))
section
variable {P : Program} {w : World} {K : PySem.W.Frag} {mg : Str → Option Value} {base : Heap}
theorem ok_are_signs (T : Txt K mg) : Has P w K mg base 1 "are_signs" ["text"] signsS := by
  refine Has.of T.f_are_signs sc_are_signs (fun A Q R ⟨x, e, _⟩ => by rw [e]; rfl) fun f cdv A outer s0 H E hr Γ Q R ⟨x, e, hl, hq⟩ => ?_
  subst e
  refine st_if (et_or3 (et_cmp o_lt (ev_lenS T.b_len (ev_var 0) (sl_small (by omega))) ev_int) (fun _ => et_cmp o_gt (ev_lenS T.b_len (ev_var 0) (sl_small (by omega))) (ev_gintE T.c_MOST_SIGNS)) (fun _ _ => et_cmp o_ne (ev_lenSet T.b_len T.b_set (ev_var 0) (by omega)) (ev_lenS T.b_len (ev_var 0) (sl_small (by omega))))) (fun h => ?_) (fun h => st_nil ?_)
  · have hb : signsOk x = false := by
      cases hs : signsOk x with
      | false => rfl
      | true =>
        unfold signsOk at hs
        simp only [Bool.or_eq_true, decide_eq_true_eq, Bool.and_eq_true, Bool.not_eq_true', decide_eq_false_iff_not] at h hs
        have := (unlike_nodup x).mpr hs.2.1
        omega
    rw [hb] at hq
    exact st_retV ev_bl hq
  · simp only [Bool.or_eq_false_iff, decide_eq_false_iff_not, Bool.not_eq_false', decide_eq_true_eq] at h
    have hu : x.Nodup := (unlike_nodup x).mp (by omega)
    refine st_retV (ev_eq (y := signsOk x) (ev_all T.b_all (ev_of_en (en_lc (α := Tx) (β := Bool) (own := [("sign", 1)]) (f := fun y => decide (y.headD 0 ∈ smallTx)) (src_str (ev_var 0)) (tg_name 1) (fun _ _ _ _ _ => pgn 1 sc_are_signs.nd)
      (fun y hy _ _ _ _ _ => ?_) sc_are_signs.nd (ok := bk_are_signs (by decide +kernel)) (hz := by rw [List.length_map]; exact sl_small (by omega))))) ?_) hq
    · obtain ⟨c, _, rfl⟩ := List.mem_map.mp hy
      exact ev_cmp o_inS (ev_var 1) (ev_gstrE T.c_SMALL)
    · unfold signsOk
      rw [List.map_map, List.all_map, decide_eq_true (by omega : 1 ≤ x.length), decide_eq_true (by omega : x.length ≤ 4), decide_eq_true hu, Bool.true_and, Bool.true_and, Bool.true_and]
      rfl
theorem ok_names_met (T : Txt K mg) : Has P w K mg base 2 "names_met" ["start", "rules"] metS := by
  refine Has.of T.f_names_met sc_names_met (fun A Q R ⟨x, rs, e, _⟩ => by rw [e]; rfl) fun f cdv A outer s0 H E hr Γ Q R ⟨st0, rs, e, hl, hq⟩ => ?_
  subst e
  refine st_setN 2 (en_lst (es_cons (ev_var 0) es_nil)) (fun ad => ?_) sc_names_met.nd
  refine st_for (fun k Γ => Le Γ [vl st0, vl rs, .lst repTx ad (metL st0 (rs.take k)), .no, .no]) (src_list (ev_var 1)) (tg_name 3) Le.refl (fun k r Γ' hk hP => ?_) (fun Γ' hP => ?_) (pgn 3 sc_names_met.nd)
  · have hlen : (metL st0 (rs.take k)).length ≤ 301 := by
      have := metL_len st0 (rs.take k)
      rw [List.length_take] at this
      omega
    rw [metL_take hk]
    refine st_le (Le.set hP 3 _) ?_
    generalize metL st0 (rs.take k) = met at hlen
    refine st_for (fun m Γ => Le Γ [vl st0, vl rs, .lst repTx ad (((r.name :: r.parts).take m).foldl addNew met), vl r, .no]) (src_list (xs := r.name :: r.parts) (ev_of_en (en_addL (xs := [r.name]) (ys := r.parts) (ev_of_en (en_lst (es_cons (ev_fld (o_cls T r) (a_name T r) rfl (RuleD.f_name _) (ev_var 3)) es_nil))) (ev_of_en (en_meth0 (o_cls T r) (ok_parts T r) (hr.mono (by decide)) rfl (RuleD.f_parts _) (ev_var 3) fun P' R' h => ⟨_, rfl, rfl, h⟩)) (sl_small (by have := r.parts_len; simp only [List.length_cons, List.length_nil]; omega))))) (tg_name 4) Le.refl (fun m n Γ2 hm hP2 => ?_) (fun Γ2 hP2 => ?_) (pgn 4 sc_names_met.nd)
    · rw [fold_take hm]
      have hl2 : (((r.name :: r.parts).take m).foldl addNew met).length ≤ 304 := by
        have h1 := addAll_len ((r.name :: r.parts).take m) met
        have h2 := r.parts_len
        rw [List.length_take, List.length_cons] at h1
        omega
      refine st_le (Le.set hP2 4 _) ?_
      generalize ((r.name :: r.parts).take m).foldl addNew met = met2 at hl2
      refine st_if (et_lendO 2 frozL (et_cmp o_notInLS (ev_var 4) (ev_var 2))) (fun h => ?_) (fun h => st_nil (st_nil ?_))
      · have h' : n ∉ met2 := by simpa using h
        refine st_append 2 (ad := ad) (xs := met2) (x := n) (ev_var 4) (st_nil (st_nil ?_)) (lt_line (by omega))
        show Le _ [vl st0, vl rs, .lst repTx ad (addNew met2 n), vl r, .no]
        rw [show addNew met2 n = met2 ++ [n] from if_neg h']
        exact le_cons (le_cons (le_cons (le_cons (le_no le_nil))))
      · have h' : n ∈ met2 := by simpa using h
        show Le _ [vl st0, vl rs, .lst repTx ad (addNew met2 n), vl r, .no]
        rw [show addNew met2 n = met2 from if_pos h']
        exact le_cons (le_cons (le_cons (le_cons (le_no le_nil))))
    · rw [List.take_length] at hP2
      exact st_nil (Le.trans hP2 (le_cons (le_cons (le_cons (le_no (le_no le_nil))))))
  · rw [List.take_length] at hP
    exact st_le hP (st_retL 2 hq)
theorem badSign_drop {signs : Tx} {rs : List RuleD} {k : Nat} {r : RuleD} (h : rs[k]? = some r) : badSign signs k (rs.drop k) = if r.signIn signs then badSign signs (k + 1) (rs.drop (k + 1)) else some k := by
  obtain ⟨hk, rfl⟩ := List.getElem?_eq_some_iff.mp h
  rw [List.drop_eq_getElem_cons hk]
  rfl
theorem ok_asked_rules (T : Txt K mg) : Has P w K mg base 4 "asked_rules" ["signs", "rules"] askedRS := by
  refine Has.ofX T.f_asked_rules sc_asked_rules (fun A Q R ⟨x, rs, e, _⟩ => by rw [e]; rfl) fun f cdv A outer s0 H E hr Γ Q R ⟨signs, rs, e, hg, h1, h2⟩ => ?_
  subst e
  refine st_if (et_cmp o_gt (ev_len T.b_len (ev_var 1)) (ev_gintE T.c_MOST_RULES)) (fun h => ?_) (fun h => st_nil ?_)
  · refine st_raise1 T.x_NoGrammar (init_NoGrammar T) (hr.mono (by decide)) (ev_why (ev_str "rules") (es_cons (ev_len T.b_len (ev_var 1)) es_nil)) (h2 _ ?_)
    unfold whyRules
    rw [if_pos (by have := of_decide_eq_true h; omega)]
  have h24 : rs.length ≤ 24 := by have := of_decide_eq_false h; omega
  have ew : whyRules signs rs = (badSign signs 0 rs).map fun (k : Nat) => ⟨tx "sign", [(k : Int)]⟩ := by
    unfold whyRules
    exact if_neg (show ¬ 24 < rs.length by omega)
  rw [ew] at h1 h2
  refine st_for (fun k Γ => badSign signs k (rs.drop k) = badSign signs 0 rs ∧ Le Γ [vl signs, vl rs, .no, .no]) (src_enum T.b_enumerate (ev_var 1)) (tg_pair 2 3 (by decide)) ⟨rfl, Le.refl⟩ (fun k x Γ' hk hP => ?_) (fun Γ' hP => ?_) (pg2 2 3 (pgn 2 sc_asked_rules.nd) (pgn 3 sc_asked_rules.nd))
  · obtain ⟨n, r⟩ := x
    obtain ⟨hn, hr'⟩ := enumL_get hk
    subst hn
    obtain ⟨hb, hP⟩ := hP
    rw [badSign_drop hr'] at hb
    have hgr := hg r (List.mem_of_getElem? hr')
    refine st_le (Le.set (Le.set hP 2 _) 3 _) ?_
    have fin : Le (((([vl signs, vl rs, .no, .no] : List Tw.Slot).set 2 (vl (k : Int))).set 3 (vl r))) [vl signs, vl rs, .no, .no] := le_cons (le_cons (le_no (le_no le_nil)))
    refine st_if (k := !r.signIn signs) ?_ (fun h => ?_) (fun h => st_nil (st_nil ⟨?_, fin⟩))
    · cases r with
      | cell n c s =>
        obtain ⟨d, rfl⟩ : ∃ d, s = [d] := by
          have hs := signOk_of (Bool.and_eq_true .. ▸ hgr : signOk s = true ∧ _).1
          match s, hs with
          | [d], _ => exact ⟨d, rfl⟩
        exact et_eq (et_and (et_val (ev_isiI T.b_isinstance T.o_CellRule T.o_CellRule T.u_CellRule_CellRule rfl (ev_var 3))) fun _ => et_cmp (o_notInS (c := d)) (ev_fld (x := RuleD.cell n c [d]) (y := ([d] : Tx)) T.o_CellRule T.a_CellRule_sign rfl rfl (ev_var 3)) (ev_var 0)) rfl
      | beside n c a b => exact et_eq (et_and (m := false) (et_val (ev_isiI T.b_isinstance T.o_BesideRule T.o_CellRule T.u_BesideRule_CellRule rfl (ev_var 3))) fun h => absurd h (by decide)) rfl
      | above n c a b => exact et_eq (et_and (m := false) (et_val (ev_isiI T.b_isinstance T.o_AboveRule T.o_CellRule T.u_AboveRule_CellRule rfl (ev_var 3))) fun h => absurd h (by decide)) rfl
      | turn n c a t => exact et_eq (et_and (m := false) (et_val (ev_isiI T.b_isinstance T.o_TurnRule T.o_CellRule T.u_TurnRule_CellRule rfl (ev_var 3))) fun h => absurd h (by decide)) rfl
    · have h' : r.signIn signs = false := by simpa using h
      rw [h', if_neg (by decide)] at hb
      exact st_raise1 T.x_NoGrammar (init_NoGrammar T) (hr.mono (by decide)) (ev_why (ev_str "sign") (es_cons (ev_var 2) es_nil)) (h2 _ (by rw [← hb]; rfl))
    · have h' : r.signIn signs = true := by simpa using h
      rw [h', if_pos rfl] at hb
      exact hb
  · obtain ⟨hb, hP⟩ := hP
    rw [enumL_len, List.drop_length] at hb
    exact st_le hP (st_nil (h1 (by rw [← hb]; rfl)))
end
noncomputable def gNewS (α : Type) [i : Rep α] (f : GramD → List α) : Tw.Spec := fun A P _ => ∃ (g : GramD), A = [vl g] ∧ P (rn (f g))
noncomputable def gNumS : Tw.Spec := fun A P R => ∃ (g : GramD) (n : Tx), A = [vl g, vl n] ∧ g.rules.length ≤ 100 ∧ (n ∈ g.names → P (rn (numbersL n g.rules))) ∧ (n ∉ g.names → R NoNameX)
section
variable {P : Program} {w : World} {K : PySem.W.Frag} {mg : Str → Option Value} {base : Heap}
theorem ok_Grammar_init (T : Txt K mg) : HasM P w K mg base 6 "Grammar" "__init__" ["self", "signs", "start", "rules"] (gramS K) := by
  refine HasM.ofI T.m_Grammar_init sc_Grammar_init (fun A Q R ⟨C, a, dx, signs, st0, rs, e, _⟩ => by rw [e]; rfl) fun f cdv A outer s0 H E hr Γ Q R ⟨C, a, dx, signs, st0, rs, e, hC, l1, l2, l3, hg, h1, h2⟩ => ⟨ownI C a dx [], ?_⟩
  subst e
  have hc := OC.cl T.o_Grammar hC
  refine st_if (et_not (et_val (ev_call (x := signsOk signs) (ok_are_signs T) (hr.mono (by decide)) (ea_cons (ev_var 1) ea_nil) fun P R h => ⟨signs, rfl, l1, h⟩))) (fun h => ?_) (fun h => st_nil ?_)
  · have h' : signsOk signs = false := by simpa using h
    exact st_raise1 T.x_NoGrammar (init_NoGrammar T) (hr.mono (by decide)) (ev_why (ev_str "signs") es_nil) (h2 _ (if_pos h'))
  have g1 : signsOk signs = true := by simpa using h
  refine st_if (et_not (et_val (ev_call (x := isName st0) (ok_is_name T) (hr.mono (by decide)) (ea_cons (ev_var 2) ea_nil) fun P R h => ⟨st0, rfl, l2, h⟩))) (fun h => ?_) (fun h => st_nil ?_)
  · have h' : isName st0 = false := by simpa using h
    refine st_raise1 T.x_NoGrammar (init_NoGrammar T) (hr.mono (by decide)) (ev_why (ev_str "start") es_nil) (h2 _ ?_)
    unfold whyG
    rw [if_neg (by rw [g1]; decide), if_pos h']
  have g2 : isName st0 = true := by simpa using h
  have eW : whyG signs st0 rs = (match whyRules signs rs with
    | some y => some y
    | none => if 8 < (metL st0 rs).length then some (⟨tx "names", [((metL st0 rs).length : Int)]⟩ : Why) else none) := by
    unfold whyG
    rw [if_neg (by rw [g1]; decide), if_neg (by rw [g2]; decide)]
  rw [eW] at h1 h2
  cases hw : whyRules signs rs with
  | some y =>
    rw [hw] at h2
    exact st_dropR (R := fun x => x = NoGram y) (exx_call (ok_asked_rules T) (hr.mono (by decide)) (ea_cons (ev_var 1) (ea_cons (ev_var 3) ea_nil)) fun P' R' _ h => ⟨signs, rs, rfl, hg, fun z => (by rw [hw] at z; cases z), fun y' hy => (by rw [hw] at hy; cases hy; exact h _ rfl)⟩) (fun x e => e ▸ h2 y rfl)
  | none =>
    rw [hw] at h1 h2
    have h24 : rs.length ≤ 24 := by
      unfold whyRules at hw
      split at hw
      · cases hw
      · omega
    refine st_drop (P := fun r => r = rv ()) (ex_call (ok_asked_rules T) (hr.mono (by decide)) (ea_cons (ev_var 1) (ea_cons (ev_var 3) ea_nil)) fun P' R' h => ⟨signs, rs, rfl, hg, fun _ => h _ rfl, fun y hy => by rw [hw] at hy; cases hy⟩) ?_
    refine st_setN 4 (en_call (ok_names_met T) (hr.mono (by decide)) (ea_cons (ev_var 2) (ea_cons (ev_var 3) ea_nil)) fun P R h => ⟨st0, rs, rfl, by omega, h⟩) (fun ad => ?_) sc_Grammar_init.nd
    refine st_freeze 4 frozL ?_
    refine st_if (et_cmp o_gt (ev_len T.b_len (ev_var 4)) (ev_gintE T.c_MOST_NAMES)) (fun h => ?_) (fun h => st_nil ?_)
    · have h' : 8 < (metL st0 rs).length := by have := of_decide_eq_true h; omega
      exact st_raise1 T.x_NoGrammar (init_NoGrammar T) (hr.mono (by decide)) (ev_why (ev_str "names") (es_cons (ev_len T.b_len (ev_var 4)) es_nil)) (h2 _ (if_pos h'))
    have h' : ¬ 8 < (metL st0 rs).length := by have := of_decide_eq_false h; omega
    refine st_setF 0 (fs := []) (ev_var 1) ?_ hc (T.a_Grammar_signs C hC) rfl
    refine st_setF 0 (fs := [("signs", vl signs)]) (ev_var 2) ?_ hc (T.a_Grammar_start C hC) (lk rfl)
    refine st_setF 0 (fs := [("signs", vl signs), ("start", vl st0)]) (ev_of_en (en_list T.b_list (ev_var 3))) ?_ hc (T.a_Grammar_kept_rules C hC) (lk rfl)
    exact st_setF 0 (fs := [("signs", vl signs), ("start", vl st0), ("kept_rules", vl rs)]) (ev_var 4) (st_nil ⟨_, rfl, rfl, h1 (if_neg h')⟩) hc (T.a_Grammar_kept_names C hC) (lk rfl)
theorem ok_Grammar_rules (T : Txt K mg) : HasM P w K mg base 1 "Grammar" "rules" ["self"] (gNewS RuleD GramD.rules) := by
  refine HasM.of T.m_Grammar_rules sc_Grammar_rules (fun A Q R ⟨g, e, _⟩ => by rw [e]; rfl) fun f cdv A outer s0 H E hr Γ Q R ⟨g, e, hq⟩ => ?_
  subst e
  exact st_retE (en_list T.b_list (ev_fld (x := g) (y := g.rules) T.o_Grammar T.a_Grammar_kept_rules rfl rfl (ev_var 0))) hq
theorem ok_Grammar_numbers_of (T : Txt K mg) : HasM P w K mg base 1 "Grammar" "numbers_of" ["self", "name"] gNumS := by
  refine HasM.of T.m_Grammar_numbers_of sc_Grammar_numbers_of (fun A Q R ⟨g, n, e, _⟩ => by rw [e]; rfl) fun f cdv A outer s0 H E hr Γ Q R ⟨g, n, e, hl, h1, h2⟩ => ?_
  subst e
  refine st_if (et_cmp o_notInLS (ev_var 1) (ev_fld (x := g) (y := g.names) T.o_Grammar T.a_Grammar_kept_names rfl rfl (ev_var 0))) (fun h => ?_) (fun h => st_nil ?_)
  · exact st_raise0 T.x_NoName T.p_NoName (h2 (by simpa using h))
  · refine st_retE (en_lcIf (α := Int × RuleD) (β := Int) (own := [("k", 2), ("rule", 3)]) (f := fun x => x.1) (q := fun x => decide (x.2.name = n)) (src_enum (xs := g.rules) T.b_enumerate (ev_fld (x := g) (y := g.rules) T.o_Grammar T.a_Grammar_kept_rules rfl rfl (ev_var 0))) (tg_pair 2 3 (by decide)) (fun _ _ _ _ _ => pg2 2 3 (pgn 2 sc_Grammar_numbers_of.nd) (pgn 3 sc_Grammar_numbers_of.nd))
      (fun x hx _ _ _ _ _ => et_cmp o_eqS (ev_fld (x := x.2) (y := x.2.name) (o_cls T _) (a_name T _) rfl (RuleD.f_name _) (ev_var 3)) (ev_var 1)) (fun x hx _ _ _ _ _ _ => ev_var 2) sc_Grammar_numbers_of.nd (ok := bk_Grammar_numbers_of (by decide +kernel)) (hz := by rw [enumL_len]; exact sl_small (by omega))) (h1 (by simpa using h))
end
structure GramD.Made (g : GramD) : Prop where
  rs : ∀ r ∈ g.rules, r.good = true
  why : whyG g.signs g.start g.rules = none
  eq : g = mkG g.signs g.start g.rules
theorem GramD.Made.ok {g : GramD} (h : g.Made) : g.Ok := by
  have := mkG_ok h.rs h.why
  rw [← h.eq] at this
  exact this
theorem GramD.Made.mk' {signs start : Tx} {rs : List RuleD} (hg : ∀ r ∈ rs, r.good = true) (h : whyG signs start rs = none) : (mkG signs start rs).Made := ⟨hg, h, rfl⟩
section
variable {P : Program} {w : World} {K : PySem.W.Frag} {mg : Str → Option Value} {base : Heap}
theorem ev_mkG {X : Cx} {Γ : List Tw.Slot} {pos p : Pos} {e1 e2 e3 : Expr} {k : Nat} {signs start : Tx} {rs : List RuleD} (T : Txt X.K X.mg) (hr : Room k X.A) (ha : EA X Γ [e1, e2, e3] [vl signs, vl start, vl rs]) (hg : ∀ r ∈ rs, r.good = true) (hw : whyG signs start rs = none) (l1 : signs.length ≤ 1000) (l2 : start.length ≤ 1000) (l3 : rs.length ≤ 1000) (hk : autoParam (7 ≤ k) Tw.aDec) (hgl : autoParam (Gl X "Grammar") Tw.aRfl)
    (he : autoParam (starEach [e1, e2, e3] X.env = (false, eval e1 X.env) :: starEach [e2, e3] X.env) Tw.aStar) (hpl : autoParam ((backTo pos (starEach [e2, e3] X.env)).any (·.1) = false) Tw.aPl) : EV X Γ (.Call (.Name "Grammar" p) [e1, e2, e3] [] pos) (mkG signs start rs) :=
  ev_makeV (x := mkG signs start rs) T.o_Grammar (ok_Grammar_init T) (hr.mono hk) rfl ha (fun C hC ad dx P' R' h => ⟨C, ad, dx, signs, start, rs, rfl, hC, l1, l2, l3, hg, fun _ => h, fun y hy => by rw [hw] at hy; cases hy⟩) hgl (by decide) he hpl
end
noncomputable def mkPic (r c : Nat) (f : Nat → Nat → Nat) : Pic := (List.range r).map fun i => (List.range c).map fun j => f i j
theorem mkPic_congr {r c : Nat} {f g : Nat → Nat → Nat} (h : ∀ i j, i < r → j < c → f i j = g i j) : mkPic r c f = mkPic r c g := by
  unfold mkPic
  exact List.map_congr_left fun i hi => List.map_congr_left fun j hj => h i j (List.mem_range.mp hi) (List.mem_range.mp hj)
noncomputable def ent (p : Pic) (i j : Nat) : Nat := (p.getD i []).getD j 0
theorem mkPic_ent {p : Pic} {r c : Nat} (hl : p.length = r) (hrow : ∀ x ∈ p, x.length = c) : p = mkPic r c (ent p) := by
  refine List.ext_getElem (by unfold mkPic; simp [hl]) fun i h1 h2 => ?_
  have hx := hrow p[i] (List.getElem_mem h1)
  refine List.ext_getElem (by rw [hx]; simp [mkPic]) fun j h3 h4 => ?_
  simp [mkPic, ent, List.getD_eq_getElem?_getD, List.getElem?_eq_getElem h1, List.getElem?_eq_getElem h3]
theorem mkPic_len {r c : Nat} {f : Nat → Nat → Nat} : (mkPic r c f).length = r := by unfold mkPic; simp
theorem mkPic_rev {r c : Nat} {f : Nat → Nat → Nat} : (mkPic r c f).reverse = mkPic r c fun i j => f (r - 1 - i) j := by
  refine List.ext_getElem (by simp [mkPic_len]) fun i h1 h2 => ?_
  simp [mkPic, List.getElem_reverse]
theorem mkPic_quarter {r c : Nat} {f : Nat → Nat → Nat} (hr : 0 < r) : quarter (mkPic r c f) = mkPic c r fun i j => f (r - 1 - j) i := by
  have hh : ((mkPic r c f).headD []).length = c := by
    obtain ⟨k, rfl⟩ : ∃ k, r = k + 1 := ⟨r - 1, by omega⟩
    unfold mkPic
    rw [List.range_succ_eq_map]
    simp
  unfold quarter
  rw [hh, mkPic_rev]
  unfold mkPic
  refine List.map_congr_left fun i hi => ?_
  rw [List.map_map]
  refine List.map_congr_left fun j hj => ?_
  have := List.mem_range.mp hi
  simp [List.getD_eq_getElem?_getD, this]
theorem mkPic_mirrored {r c : Nat} {f : Nat → Nat → Nat} : mirrored (mkPic r c f) = mkPic r c fun i j => f i (c - 1 - j) := by
  unfold mirrored mkPic
  rw [List.map_map]
  refine List.map_congr_left fun i hi => ?_
  refine List.ext_getElem (by simp) fun j h1 h2 => ?_
  simp [List.getElem_reverse]
theorem Pk.mk' {p : Pic} {r c : Nat} (h : Pk p r c) : p = mkPic r c (ent p) := mkPic_ent h.len h.row
theorem q4 {p : Pic} {r c : Nat} (h : Pk p r c) : quarter (quarter (quarter (quarter p))) = p := by
  have hr := h.r0
  have hc := h.c0
  conv => lhs; rw [h.mk']
  rw [mkPic_quarter hr, mkPic_quarter hc, mkPic_quarter hr, mkPic_quarter hc]
  conv => rhs; rw [h.mk']
  refine mkPic_congr fun i j hi hj => ?_
  rw [show r - 1 - (r - 1 - i) = i by omega, show c - 1 - (c - 1 - j) = j by omega]
theorem mm {p : Pic} {r c : Nat} (h : Pk p r c) : mirrored (mirrored p) = p := by
  conv => lhs; rw [h.mk']
  rw [mkPic_mirrored, mkPic_mirrored]
  conv => rhs; rw [h.mk']
  refine mkPic_congr fun i j hi hj => ?_
  rw [show c - 1 - (c - 1 - j) = j by omega]
theorem mq {p : Pic} {r c : Nat} (h : Pk p r c) : mirrored (quarter p) = quarter (quarter (quarter (mirrored p))) := by
  have hr := h.r0
  have hc := h.c0
  rw [h.mk']
  rw [mkPic_quarter hr, mkPic_mirrored, mkPic_mirrored, mkPic_quarter hr, mkPic_quarter hc, mkPic_quarter hr]
  refine mkPic_congr fun i j hi hj => ?_
  rw [show c - 1 - (c - 1 - i) = i by omega]
theorem quarters_add (m : Nat) (p : Pic) : ∀ n, quarters (n + m) p = quarters n (quarters m p)
  | 0 => by rw [Nat.zero_add]; rfl
  | n + 1 => by
    rw [show n + 1 + m = (n + m) + 1 by omega]
    show quarter (quarters (n + m) p) = quarter _
    rw [quarters_add m p n]
theorem quarters_four {p : Pic} {r c : Nat} (h : Pk p r c) (n : Nat) : quarters (n + 4) p = quarters n p := by
  rw [quarters_add]
  show quarters n (quarter (quarter (quarter (quarter p)))) = _
  rw [q4 h]
theorem quarters_mod {p : Pic} {r c : Nat} (h : Pk p r c) (n : Nat) : quarters n p = quarters (n % 4) p := by
  have : ∀ k, quarters (n % 4 + 4 * k) p = quarters (n % 4) p := by
    intro k
    induction k with
    | zero => rfl
    | succ k ih => rw [show n % 4 + 4 * (k + 1) = (n % 4 + 4 * k) + 4 by omega, quarters_four h, ih]
  have e := this (n / 4)
  rw [show n % 4 + 4 * (n / 4) = n by omega] at e
  exact e
theorem mquarters {p : Pic} {r c : Nat} (h : Pk p r c) : ∀ n, mirrored (quarters n p) = quarters (3 * n) (mirrored p)
  | 0 => rfl
  | n + 1 => by
    show mirrored (quarter (quarters n p)) = _
    rw [mq (h.quarters n), mquarters h n, show 3 * (n + 1) = 3 + 3 * n by omega, quarters_add]
    rfl
noncomputable def afterN (t u : Nat) : Nat := (if decide (4 ≤ t) != decide (4 ≤ u) then 4 else 0) + ((if 4 ≤ u then 4 - t % 4 else t % 4) + u) % 4
noncomputable def backN (t : Nat) : Nat := if 4 ≤ t then t else (4 - t) % 4
theorem turned_after {p : Pic} {r c : Nat} (h : Pk p r c) {t u : Nat} (ht : t < 8) (hu : u < 8) : turned (turned p t) u = turned p (afterN t u) := by
  have hm := h.mirrored
  have aux : ∀ a b : Nat, a % 4 = b % 4 → ∀ q : Pic, Pk q r c → quarters a q = quarters b q := fun a b e q hq => by rw [quarters_mod hq a, quarters_mod hq b, e]
  have e0 : ∀ t, turned p t = quarters (t % 4) (if 4 ≤ t then mirrored p else p) := fun _ => rfl
  by_cases h1 : 4 ≤ t
  · by_cases h2 : 4 ≤ u
    · have en : afterN t u = (4 - t % 4 + u) % 4 := by unfold afterN; simp [h1, h2]
      rw [en, e0 t, if_pos h1]
      show quarters (u % 4) (if 4 ≤ u then mirrored (quarters (t % 4) (mirrored p)) else _) = _
      rw [if_pos h2, mquarters hm, mm h, ← quarters_add, e0, if_neg (by omega)]
      exact aux _ _ (by omega) _ h
    · have en : afterN t u = 4 + (t % 4 + u) % 4 := by unfold afterN; simp [h1, h2]
      rw [en, e0 t, if_pos h1]
      show quarters (u % 4) (if 4 ≤ u then _ else quarters (t % 4) (mirrored p)) = _
      rw [if_neg h2, ← quarters_add, e0, if_pos (by omega)]
      exact aux _ _ (by omega) _ hm
  · by_cases h2 : 4 ≤ u
    · have en : afterN t u = 4 + (4 - t % 4 + u) % 4 := by unfold afterN; simp [h1, h2]
      rw [en, e0 t, if_neg h1]
      show quarters (u % 4) (if 4 ≤ u then mirrored (quarters (t % 4) p) else _) = _
      rw [if_pos h2, mquarters h, ← quarters_add, e0, if_pos (by omega)]
      exact aux _ _ (by omega) _ hm
    · have en : afterN t u = (t % 4 + u) % 4 := by unfold afterN; simp [h1, h2]
      rw [en, e0 t, if_neg h1]
      show quarters (u % 4) (if 4 ≤ u then _ else quarters (t % 4) p) = _
      rw [if_neg h2, ← quarters_add, e0, if_neg (by omega)]
      exact aux _ _ (by omega) _ h
theorem after_back : ∀ t < 8, afterN t (backN t) = 0 ∧ afterN (backN t) t = 0 ∧ backN t < 8 := by decide
theorem turned_back {p : Pic} {r c : Nat} (h : Pk p r c) {t : Nat} (ht : t < 8) : turned (turned p t) (backN t) = p := by
  have := after_back t ht
  rw [turned_after h ht this.2.2, this.1]
  rfl
local macro_rules | `(tactic| walk_at "le") => `(tactic| repeat (first | exact le_nil | refine le_cons ?_ | refine le_no ?_))
theorem cutL_nat {A : Type} {xs : List A} {a b : Nat} (hb : b ≤ xs.length) (hab : a ≤ b) : cutL xs (some (a : Int)) (some (b : Int)) = (xs.drop a).take (b - a) := by
  unfold cutL
  rw [HT.sIx_nat, HT.sIx_nat, Nat.min_eq_left hb, Nat.min_eq_left (by omega)]
noncomputable def sizeS : Tw.Spec := fun A P _ => ∃ (p : Pic) (r c : Nat), A = [vl p] ∧ Pk p r c ∧ P (rv (Tup.mk [(r : Int), (c : Int)]))
section
variable {P : Program} {w : World} {K : PySem.W.Frag} {mg : Str → Option Value} {base : Heap}
theorem ok_size_of (T : Txt K mg) : Has P w K mg base 1 "size_of" ["picture"] sizeS := by
  refine Has.of T.f_size_of sc_size_of (fun A Q R ⟨p, r, c, e, _⟩ => by rw [e]; rfl) fun f cdv A outer s0 H E hr Γ Q R ⟨p, r, c, e, hp, hq⟩ => ?_
  subst e
  obtain ⟨h0, h1⟩ := hp.head
  have hc6 := hp.c6
  exact st_retV (ev_tupH (es_cons (ev_eq (y := (r : Int)) (ev_len T.b_len (ev_var 0)) (by rw [hp.len])) (es_cons (ev_eq (y := (c : Int)) (ev_lenS T.b_len (ev_ixL (ev_var 0) ev_int h0) (sl6 (by omega))) (by rw [h1])) es_nil))) hq
end
noncomputable def cellsOf (p : Pic) : Int := (p.length : Int) * ((p.headD []).length : Int)
theorem put_mem {κ α : Type} [DecidableEq κ] {l : List (κ × α)} {k : κ} {v : α} {x : κ × α} (h : x ∈ put l k v) : x = (k, v) ∨ x ∈ l := by
  unfold put at h
  split at h
  · obtain ⟨y, hy, e⟩ := List.mem_map.mp h
    by_cases hk : y.1 = k
    · rw [if_pos hk] at e
      exact .inl (by rw [← e, hk])
    · rw [if_neg hk] at e
      exact .inr (e ▸ hy)
  · rcases List.mem_append.mp h with h | h
    · exact .inr h
    · exact .inl (List.mem_singleton.mp h)
noncomputable abbrev repPic : Rep Pic := repList
theorem alike_strs : ∀ xs ys : List Tx, PySem.W.alikeAll (Dy.pys (xs.map Dy.s)) (Dy.pys (ys.map Dy.s)) = true
  | [], _ => by simp [Dy.pys, PySem.W.alikeAll]
  | _ :: _, [] => by simp [Dy.pys, PySem.W.alikeAll]
  | x :: xs, y :: ys => by
    show PySem.W.alikeAll (.str (sx x) :: Dy.pys (xs.map Dy.s)) (.str (sx y) :: Dy.pys (ys.map Dy.s)) = true
    rw [PySem.W.alikeAll, alike_strs xs ys]
    simp [PySem.W.alike]
theorem depth_strs : ∀ xs : List Tx, PyData.depthAll (Dy.pys (xs.map Dy.s)) = 0
  | [] => by simp [Dy.pys, PyData.depthAll]
  | x :: xs => by
    show PyData.depthAll (.str (sx x) :: Dy.pys (xs.map Dy.s)) = 0
    rw [PyData.depthAll, depth_strs xs]
    simp [PyData.depth]
noncomputable def shownS : Tw.Spec := fun A P _ => ∃ (p : Pic) (r c : Nat), A = [vl p] ∧ Pk p r c ∧ P (rv (TL.joinL [47] p))
theorem sum_le {n : Nat} : ∀ {p : List Tx}, (∀ x ∈ p, x.length ≤ n) → (p.map (·.length)).sum ≤ p.length * n
  | [], _ => by simp
  | x :: p, h => by
    rw [List.map_cons, List.sum_cons, List.length_cons, Nat.succ_mul]
    have h1 := h x (List.mem_cons_self ..)
    have h2 := sum_le (p := p) fun y hy => h y (List.mem_cons_of_mem _ hy)
    omega
section
variable {P : Program} {w : World} {K : PySem.W.Frag} {mg : Str → Option Value} {base : Heap}
theorem ok_shown (T : Txt K mg) : Has P w K mg base 1 "shown" ["picture"] shownS := by
  refine Has.of T.f_shown sc_shown (fun A Q R ⟨p, r, c, e, _⟩ => by rw [e]; rfl) fun f cdv A outer s0 H E hr Γ Q R ⟨p, r, c, e, hp, hq⟩ => ?_
  subst e
  refine st_retV (ev_join (ev_str "/") (ev_var 0) ?_) hq
  have h1 := sum_le (n := 6) fun x hx => by rw [hp.row x hx]; exact hp.c6
  have h2 := hp.len
  have h3 := hp.r6
  show _ + _ * 1 ≤ _
  omega
end
local macro_rules | `(tactic| walk_at "le") => `(tactic| repeat (first | exact le_nil | refine le_cons ?_ | refine le_no ?_))
noncomputable abbrev Tab := List (T2x × Int)
noncomputable def shw (p : Pic) : Tx := TL.joinL [47] p
noncomputable abbrev Use := List (Pic × Tx)
noncomputable def pairs (s : Bool) (p : Pic) (a b : Tx) (m : Nat) : List Use := (List.range (m - 1)).map fun k => [(partA s p (k + 1), a), (partB s p (k + 1), b)]
noncomputable def usesP (r : RuleD) (p : Pic) : List Use := match r with
  | .cell _ _ s => if p = [s] then [[]] else []
  | .turn _ _ a t => [[(turned p (backN t.toNat), a)]]
  | .beside _ _ a b => pairs true p a b (p.headD []).length
  | .above _ _ a b => pairs false p a b p.length
noncomputable def costAcc (M : Tab) : Int → Use → Option Int
  | t, [] => some t
  | t, x :: us => match look M (shw x.1, x.2) with
    | none => none
    | some v => costAcc M (t + v) us
noncomputable def costByP (M : Tab) (r : RuleD) (use : Use) : Option Int := costAcc M r.cost use
noncomputable instance : Flat (Option Int) := ⟨fun {K F F' v x} h => by cases x with
  | none => exact h
  | some y => exact h⟩
local macro_rules | `(tactic| walk_at "le") => `(tactic| repeat (first | exact le_nil | refine le_cons ?_ | refine le_no ?_))
theorem nodup_leB {A : Type} [DecidableEq A] {l : List A} : ∀ {m : List A}, l.Nodup → (∀ x ∈ l, x ∈ m) → l.length ≤ m.length := by
  induction l with
  | nil => intro m _ _; exact Nat.zero_le _
  | cons x l ih =>
    intro m nd sub
    rw [List.nodup_cons] at nd
    have hx := sub x (List.mem_cons_self ..)
    have h1 := ih (m := m.erase x) nd.2 fun y hy => (List.mem_erase_of_ne fun (e : y = x) => nd.1 (e ▸ hy)).mpr (sub y (List.mem_cons_of_mem _ hy))
    rw [List.length_erase_of_mem hx] at h1
    have := List.length_pos_of_mem hx
    rw [List.length_cons]
    omega
structure TabOk (K : List T2x) (M : Tab) : Prop where
  nd : (M.map (·.1)).Nodup
  sub : ∀ k ∈ M.map (·.1), k ∈ K
  pos : ∀ x ∈ M, 1 ≤ x.2
theorem TabOk.len {K : List T2x} {M : Tab} (h : TabOk K M) : M.length ≤ K.length := by
  have := nodup_leB h.nd h.sub
  rwa [List.length_map] at this
theorem TabOk.nil {K : List T2x} : TabOk K [] := ⟨List.nodup_nil, fun _ h => (List.not_mem_nil h).elim, fun _ h => (List.not_mem_nil h).elim⟩
theorem TabOk.put {K : List T2x} {M : Tab} (h : TabOk K M) {k : T2x} {v : Int} (hk : k ∈ K) (hv : 1 ≤ v) : TabOk K (put M k v) := by
  refine ⟨put_nodup h.nd, fun j hj => ?_, fun x hx => ?_⟩
  · obtain ⟨y, hy, rfl⟩ := List.mem_map.mp hj
    rcases put_mem hy with rfl | hy
    · exact hk
    · exact h.sub _ (List.mem_map.mpr ⟨y, hy, rfl⟩)
  · rcases put_mem hx with rfl | hx
    · exact hv
    · exact h.pos x hx
noncomputable def sumT (M : Tab) : Nat := (M.map fun x => x.2.toNat).sum
noncomputable def Less (N : Nat) (M' M : Tab) : Prop := N - M'.length < N - M.length ∨ (M'.length = M.length ∧ sumT M' < sumT M)
theorem Less.trans {N : Nat} {A B C : Tab} (h : Less N A B) (h2 : Less N B C) : Less N A C := by
  unfold Less at *
  omega
noncomputable def Prog (N : Nat) (M : Tab) (z : Tab × Bool) : Prop := (z.2 = false ∧ z.1 = M) ∨ (z.2 = true ∧ Less N z.1 M)
theorem Prog.comp {N : Nat} {M : Tab} {z y : Tab × Bool} (h : Prog N M z) (h2 : Prog N z.1 y) : Prog N M (y.1, z.2 || y.2) := by
  rcases h with ⟨e1, e2⟩ | ⟨e1, e2⟩
  · rw [e2] at h2
    rw [e1, Bool.false_or]
    exact h2
  · rcases h2 with ⟨e3, e4⟩ | ⟨e3, e4⟩
    · rw [e1, e4]; exact .inr ⟨rfl, e2⟩
    · rw [e1]; exact .inr ⟨rfl, e4.trans e2⟩
structure KeysOk (K : List T2x) (rs : List RuleD) (pics : List Pic) : Prop where
  cost : ∀ r ∈ rs, 1 ≤ r.cost
  key : ∀ p ∈ pics, ∀ r ∈ rs, (shw p, r.name) ∈ K
theorem KeysOk.sub {K : List T2x} {rs rs' : List RuleD} {pics pics' : List Pic} (h : KeysOk K rs pics) (h1 : ∀ r ∈ rs', r ∈ rs) (h2 : ∀ p ∈ pics', p ∈ pics) : KeysOk K rs' pics' :=
  ⟨fun r hr => h.cost r (h1 r hr), fun p hp r hr => h.key p (h2 p hp) r (h1 r hr)⟩
theorem take_snoc {A : Type} {xs : List A} {k : Nat} {x : A} (h : xs[k]? = some x) : xs.take (k + 1) = xs.take k ++ [x] := by
  rw [List.take_succ, h]; rfl
local macro_rules | `(tactic| walk_at "le") => `(tactic| repeat (first | exact le_nil | refine le_cons ?_ | refine le_no ?_))
noncomputable abbrev grpF (xs : List Pic) (k : Int) : List Pic := xs.filter fun s => decide (cellsOf s = k)
structure GrpOk (l : List (Int × Addr × List Pic)) (xs : List Pic) : Prop where
  val : ∀ x ∈ l, x.2.2 = grpF xs x.1
  all : ∀ s ∈ xs, cellsOf s ∈ l.map (·.1)
  some : ∀ k ∈ l.map (·.1), ∃ s ∈ xs, cellsOf s = k
  nd : (l.map (·.1)).Nodup
theorem GrpOk.nil : GrpOk [] [] := ⟨fun _ h => (List.not_mem_nil h).elim, fun _ h => (List.not_mem_nil h).elim, fun _ h => (List.not_mem_nil h).elim, List.nodup_nil⟩
theorem joinL_sl : ∀ {p : List Tx}, p ≠ [] → p.flatMap (fun r => r ++ [47]) = TL.joinL [47] p ++ [47]
  | [], h => absurd rfl h
  | [x], _ => by simp [TL.joinL]
  | x :: y :: p, _ => by
    have ih := joinL_sl (p := y :: p) (by simp)
    rw [List.flatMap_cons, ih]
    show (x ++ [47]) ++ (TL.joinL [47] (y :: p) ++ [47]) = (x ++ ([47] ++ TL.joinL [47] (y :: p))) ++ [47]
    simp only [List.append_assoc]
noncomputable def NoSlash (p : Pic) : Prop := ∀ x ∈ p, ∀ c ∈ x, c ≠ 47
theorem split_one : ∀ {x y A B : List Nat}, (∀ c ∈ x, c ≠ 47) → (∀ c ∈ y, c ≠ 47) → x ++ 47 :: A = y ++ 47 :: B → x = y ∧ A = B
  | [], [], A, B, _, _, h => ⟨rfl, by simpa using h⟩
  | [], d :: y, A, B, _, hy, h => by
    have : 47 = d := by
      have := congrArg List.head? h
      simpa using this
    exact absurd this.symm (hy d (List.mem_cons_self ..))
  | c :: x, [], A, B, hx, _, h => by
    have : c = 47 := by
      have := congrArg List.head? h
      simpa using this
    exact absurd this (hx c (List.mem_cons_self ..))
  | c :: x, d :: y, A, B, hx, hy, h => by
    rw [List.cons_append, List.cons_append, List.cons.injEq] at h
    obtain ⟨h1, h2⟩ := split_one (fun z hz => hx z (List.mem_cons_of_mem _ hz)) (fun z hz => hy z (List.mem_cons_of_mem _ hz)) h.2
    exact ⟨by rw [h.1, h1], h2⟩
theorem flat_sl : ∀ {p q : List Tx}, NoSlash p → NoSlash q → p.flatMap (fun r => r ++ [47]) = q.flatMap (fun r => r ++ [47]) → p = q
  | [], [], _, _, _ => rfl
  | [], y :: q, _, _, h => by simp at h
  | x :: p, [], _, _, h => by simp at h
  | x :: p, y :: q, hp, hq, h => by
    rw [List.flatMap_cons, List.flatMap_cons, List.append_assoc, List.append_assoc] at h
    obtain ⟨h1, h2⟩ := split_one (hp x (List.mem_cons_self ..)) (hq y (List.mem_cons_self ..)) h
    rw [h1, flat_sl (fun z hz => hp z (List.mem_cons_of_mem _ hz)) (fun z hz => hq z (List.mem_cons_of_mem _ hz)) h2]
theorem shw_inj {p q : Pic} {r c r' c' : Nat} (hp : Pk p r c) (hq : Pk q r' c') (h1 : NoSlash p) (h2 : NoSlash q) (h : shw p = shw q) : p = q := by
  have ne : ∀ {p : Pic} {r c : Nat}, Pk p r c → p ≠ [] := fun hp z => by have := hp.len; have := hp.r0; rw [z] at *; simp at *; omega
  refine flat_sl h1 h2 ?_
  rw [joinL_sl (ne hp), joinL_sl (ne hq)]
  exact congrArg (· ++ [47]) h
theorem sg_quarter {Φ : Nat → Prop} {p : Pic} {r c : Nat} (hp : Pk p r c) (h : ∀ x ∈ p, ∀ k ∈ x, Φ k) : ∀ x ∈ quarter p, ∀ k ∈ x, Φ k := fun x hx k hk => by
  unfold quarter at hx
  obtain ⟨j, hj, rfl⟩ := List.mem_map.mp hx
  obtain ⟨row, hrow, rfl⟩ := List.mem_map.mp hk
  have hrow := List.mem_reverse.mp hrow
  have hj := List.mem_range.mp hj
  rw [hp.head.2, ← hp.row row hrow] at hj
  rw [List.getD_eq_getElem?_getD, List.getElem?_eq_getElem hj]
  exact h row hrow _ (List.getElem_mem hj)
theorem sg_mirrored {Φ : Nat → Prop} {p : Pic} (h : ∀ x ∈ p, ∀ k ∈ x, Φ k) : ∀ x ∈ mirrored p, ∀ k ∈ x, Φ k := fun x hx k hk => by
  unfold mirrored at hx
  obtain ⟨row, hrow, rfl⟩ := List.mem_map.mp hx
  exact h row hrow k (List.mem_reverse.mp hk)
theorem sg_quarters {Φ : Nat → Prop} {p : Pic} {r c : Nat} (hp : Pk p r c) (h : ∀ x ∈ p, ∀ k ∈ x, Φ k) : ∀ n, ∀ x ∈ quarters n p, ∀ k ∈ x, Φ k
  | 0 => h
  | n + 1 => sg_quarter (hp.quarters n) (sg_quarters hp h n)
theorem sg_turned {Φ : Nat → Prop} {p : Pic} {r c : Nat} (hp : Pk p r c) (h : ∀ x ∈ p, ∀ k ∈ x, Φ k) (t : Nat) : ∀ x ∈ turned p t, ∀ k ∈ x, Φ k := by
  unfold turned
  split
  · exact sg_quarters hp.mirrored (sg_mirrored h) _
  · exact sg_quarters hp h _
noncomputable def tle (M M' : Tab) : Prop := ∀ k v, look M k = some v → ∃ v', look M' k = some v' ∧ v' ≤ v
theorem tle.refl (M : Tab) : tle M M := fun _ v h => ⟨v, h, Int.le_refl _⟩
theorem tle.trans {A B C : Tab} (h : tle A B) (h2 : tle B C) : tle A C := fun k v e => by
  obtain ⟨v', e', l⟩ := h k v e
  obtain ⟨v2, e2, l2⟩ := h2 k v' e'
  exact ⟨v2, e2, Int.le_trans l2 l⟩
noncomputable def Done (M : Tab) (r : RuleD) (p : Pic) (use : Use) : Prop := ∀ c, costByP M r use = some c → ∃ v, look M (shw p, r.name) = some v ∧ v ≤ c
structure RunOk (z y : Tab × Bool) (pics : List Pic) : Prop where
  le : tle z.1 y.1
  same : ∀ k, (∀ s ∈ pics, ∀ n, k ≠ ((shw s, n) : T2x)) → look y.1 k = look z.1 k
  flag : y.2 = false → z.2 = false ∧ y.1 = z.1
noncomputable def Att (rs : List RuleD) (S : List Pic) (M : Tab) : Prop := ∀ k v, look M k = some v → ∃ s ∈ S, ∃ r ∈ rs, k = (shw s, r.name) ∧ ∃ use ∈ usesP r s, ∃ c, costByP M r use = some c ∧ c ≤ v
theorem RunOk.trans {pics : List Pic} {x y z : Tab × Bool} (h : RunOk x y pics) (h2 : RunOk y z pics) : RunOk x z pics :=
  ⟨h.le.trans h2.le, fun k hk => (h2.same k hk).trans (h.same k hk), fun hf => by
    obtain ⟨h3, h4⟩ := h2.flag hf
    obtain ⟨h5, h6⟩ := h.flag h3
    exact ⟨h5, h4.trans h6⟩⟩
structure Least (rs : List RuleD) (S : List Pic) (M : Tab) : Prop where
  nd : (M.map (·.1)).Nodup
  pos : ∀ x ∈ M, 1 ≤ x.2
  att : Att rs S M
  done : ∀ r ∈ rs, ∀ s ∈ S, ∀ use ∈ usesP r s, Done M r s use
theorem Least.exact {rs : List RuleD} {S : List Pic} {M : Tab} (h : Least rs S M) {k : T2x} {v : Int} (hv : look M k = some v) : ∃ s ∈ S, ∃ r ∈ rs, k = (shw s, r.name) ∧ ∃ use ∈ usesP r s, costByP M r use = some v := by
  obtain ⟨s, hs, r, hr, e, use, hu, c, hc, hle⟩ := h.att k v hv
  obtain ⟨v', hv', hle'⟩ := h.done r hr s hs use hu c hc
  rw [← e, hv] at hv'
  cases hv'
  have : c = v := by omega
  exact ⟨s, hs, r, hr, e, use, hu, by rw [hc, this]⟩
local macro_rules | `(tactic| walk_at "le") => `(tactic| repeat (first | exact le_nil | refine le_cons ?_ | refine le_no ?_))
noncomputable abbrev Fnd := List (Tx × List (Tx × (Pic × Int)))
noncomputable abbrev FEnt := Ent (Pic × Int)
noncomputable abbrev ownF (a : Addr) (l : List FEnt) : Own := ownDD (repPair : Rep (Pic × Int)) a l
noncomputable abbrev notes (l : Fnd) (n : Tx) : List (Tx × (Pic × Int)) := (look l n).getD []
noncomputable def noteB (l : Fnd) (n : Tx) (p : Pic) (k : Int) : Bool := match look (notes l n) (shw p) with
  | some q => !decide (q.2 ≤ k)
  | none => true
noncomputable def noteL (l : Fnd) (n : Tx) (p : Pic) (k : Int) : Fnd := if noteB l n p k then put l n (put (notes l n) (shw p) (p, k)) else put l n (notes l n)
noncomputable def noteS : Tw.Spec := fun A P _ => ∃ (a : Addr) (l : List FEnt) (n : Tx) (p : Pic) (r c : Nat) (k : Int), A = [.own (ownF a l), vl n, vl p, vl k] ∧ Pk p r c ∧ (stripE l).length < sizeLine ∧ (notes (stripE l) n).length < sizeLine ∧ ∀ l', stripE l' = noteL (stripE l) n p k → P (.chg repBool (noteB (stripE l) n p k) [ownF a l'])
noncomputable def madeOfS : Tw.Spec := fun A P _ => (∃ (a : Addr) (l : List FEnt) (n : Tx), A = [.own (ownF a l), vl n] ∧ P (.chg (repList (i := repPair)) ((notes (stripE l) n).map (·.2)) [ownF a l]))
noncomputable def madeOfDS : Tw.Spec := fun A P _ => ∃ (D : Dic Tx (Dic Tx (Pic × Int))) (n : Tx), A = [vl D, vl n] ∧ P (rn ((notes (D.l.map fun p => (p.1, p.2.l)) n).map (·.2)))
section
variable {P : Program} {w : World} {K : PySem.W.Frag} {mg : Str → Option Value} {base : Heap}
theorem ok_note (T : Txt K mg) : Has P w K mg base 2 "note" ["found", "name", "picture", "cost"] noteS := by
  refine Has.of T.f_note sc_note (fun A Q R ⟨a, l, n, p, r, c, k, e, _⟩ => by rw [e]; rfl) fun f cdv A outer s0 H E hr Γ Q R ⟨a, l, n, p, r, c, k, e, hp, hz1, hz2, hq⟩ => ?_
  subst e
  refine st_splitDD 0 4 (ad := a) (l := l) (x := n) (ev_var 1) (by unfold stripE at hz1; rwa [List.length_map] at hz1) (fun b inner l' hm hl => ?_) sc_note.nd
  have hin : notes (stripE l) n = inner := by
    rcases hl with ⟨_, h⟩ | ⟨_, h, h2, _⟩
    · unfold notes; rw [h]; rfl
    · unfold notes; rw [h, h2]; rfl
  have hupd : ∀ v, stripE (updE l' n v) = put (stripE l) n v := fun v => stripE_upd hl hm
  rw [hin] at hz2
  refine st_set 5 (x := shw p) (ev_call (ok_shown T) (hr.mono (by decide)) (ea_cons (x := p) (ev_var 2) ea_nil) fun P' R' h => ⟨p, r, c, rfl, hp, h⟩) ?_ sc_note.nd
  refine st_le (Γ' := [.own (ownDH repPair a l' (some b)), vl n, vl p, vl k, .own (ownD Tx repPair b inner), vl (shw p)]) (by walk_at "le") ?_
  refine st_if (k := !noteB (stripE l) n p k) ?_ (fun hb => ?_) (fun hb => st_nil ?_)
  · cases hy : look inner (shw p) with
    | none =>
      have e0 : noteB (stripE l) n p k = true := by unfold noteB; rw [hin, hy]
      rw [e0]
      exact et_lendO 4 frozD (et_eq (et_and (k := false) (m := true) (et_eq (et_din hr (l := (Dic.mk inner : Dic Tx (Pic × Int))) (x := shw p) (ev_var 5) (ev_var 4)) (by show (look inner (shw p)).isSome = false; rw [hy]; rfl)) fun h => nomatch h) rfl)
    | some q =>
      have e0 : noteB (stripE l) n p k = !decide (q.2 ≤ k) := by unfold noteB; rw [hin, hy]
      rw [e0]
      exact et_lendO 4 frozD (et_eq (et_and (k := true) (m := decide (q.2 ≤ k)) (et_eq (et_din hr (l := (Dic.mk inner : Dic Tx (Pic × Int))) (x := shw p) (ev_var 5) (ev_var 4)) (by show (look inner (shw p)).isSome = true; rw [hy]; rfl)) fun _ => et_cmp o_le (ev_snd (x := q) (ev_dget hr (l := (Dic.mk inner : Dic Tx (Pic × Int))) (x := shw p) (y := q) (ev_var 4) (ev_var 5) hy)) (ev_var 3)) (by simp))
  · have hb : noteB (stripE l) n p k = false := by simpa using hb
    refine st_fuse 0 4 hm ?_
    refine st_retC 0 (x := false) ev_bl ?_
    have := hq (updE l' n inner) (by unfold noteL; rw [hb, hupd, hin]; rfl)
    rw [hb] at this
    exact this
  · have hb : noteB (stripE l) n p k = true := by simpa using hb
    refine st_dput hr 4 (ad := b) (l := inner) (x := shw p) (y := ((p, k) : Pic × Int)) (ev_pair (x := p) (y := k) (ev_of_en (en_list T.b_list (ev_var 2))) (ev_var 3)) (ev_var 5) hz2 ?_
    refine st_fuse 0 4 hm ?_
    refine st_retC 0 (x := true) ev_bl ?_
    have := hq (updE l' n (put inner (shw p) (p, k))) (by unfold noteL; rw [hb, hupd, hin]; rfl)
    rw [hb] at this
    exact this
theorem ok_made_of (T : Txt K mg) : Has P w K mg base 1 "made_of" ["found", "name"] madeOfS := by
  refine Has.of (k := 0) T.f_made_of sc_made_of (fun A Q R ⟨a, l, n, e, _⟩ => by rw [e]; rfl) fun f cdv A outer s0 H E hr Γ Q R ⟨a, l, n, e, hq⟩ => ?_
  subst e
  refine st_retC 0 (ev_of_en (en_ddvals 0 (l := stripE l) (x := n) hr (ev_var 1) (fun {B F H σ} L => ?_) T.b_list)) hq
  obtain ⟨v, ev, ⟨rfl, _, _, h1, h2⟩, _⟩ := slot_own L (k := 0) rfl
  exact ⟨a, l, ev, ⟨h1, fun p hp => h2 p hp (fun z => nomatch z)⟩, rfl⟩
theorem ok_made_ofD (T : Txt K mg) : Has P w K mg base 1 "made_of" ["found", "name"] madeOfDS := by
  refine Has.of (k := 0) T.f_made_of sc_made_of (fun A Q R ⟨D, n, e, _⟩ => by rw [e]; rfl) fun f cdv A outer s0 H E hr Γ Q R ⟨D, n, e, hq⟩ => ?_
  subst e
  refine st_retE (en_ddvals 0 (l := D.l.map fun p => (p.1, p.2.l)) (x := n) hr (ev_var 1) (fun {B F H σ} L => ?_) T.b_list) hq
  obtain ⟨v, ev, r⟩ := slot_val L (k := 0) rfl
  obtain ⟨d, l, rfl, h1, h2⟩ := dd_data L.same r
  exact ⟨d, l, ev, h1, h2⟩
end
structure FInv (names : List Tx) (S : List Pic) (l : Fnd) : Prop where
  nd : (l.map (·.1)).Nodup
  nm : ∀ x ∈ l.map (·.1), x ∈ names
  own : ∀ n, ((notes l n).map (·.1)).Nodup ∧ ∀ y ∈ notes l n, y.2.1 ∈ S ∧ y.1 = shw y.2.1
theorem FInv.nil {names : List Tx} {S : List Pic} : FInv names S [] := ⟨List.nodup_nil, fun _ h => (List.not_mem_nil h).elim, fun _ => ⟨List.nodup_nil, fun _ h => (List.not_mem_nil h).elim⟩⟩
theorem FInv.len {names : List Tx} {S : List Pic} {l : Fnd} (h : FInv names S l) : l.length ≤ names.length := by
  have := nodup_leB h.nd h.nm
  rwa [List.length_map] at this
theorem FInv.lenN {names : List Tx} {S : List Pic} {l : Fnd} (h : FInv names S l) (n : Tx) : (notes l n).length ≤ S.length := by
  obtain ⟨h1, h2⟩ := h.own n
  have h3 : ∀ x ∈ (notes l n).map (·.1), x ∈ S.map shw := fun x hx => by
    obtain ⟨y, hy, rfl⟩ := List.mem_map.mp hx
    obtain ⟨h4, h5⟩ := h2 y hy
    rw [h5]
    exact List.mem_map.mpr ⟨_, h4, rfl⟩
  have := nodup_leB h1 h3
  rwa [List.length_map, List.length_map] at this
theorem notes_put {l : Fnd} {n m : Tx} {v : List (Tx × (Pic × Int))} : notes (put l n v) m = if m = n then v else notes l m := by
  unfold notes
  rw [look_put]
  split <;> rfl
theorem FInv.put {names : List Tx} {S : List Pic} {l : Fnd} (h : FInv names S l) {n : Tx} (hn : n ∈ names) {v : List (Tx × (Pic × Int))} (hv : (v.map (·.1)).Nodup ∧ ∀ y ∈ v, y.2.1 ∈ S ∧ y.1 = shw y.2.1) : FInv names S (put l n v) := by
  refine ⟨put_nodup h.nd, fun x hx => ?_, fun m => ?_⟩
  · obtain ⟨y, hy, rfl⟩ := List.mem_map.mp hx
    rcases put_mem hy with rfl | hy
    · exact hn
    · exact h.nm _ (List.mem_map.mpr ⟨y, hy, rfl⟩)
  · rw [notes_put]
    split
    · exact hv
    · exact h.own m
theorem FInv.note {names : List Tx} {S : List Pic} {l : Fnd} (h : FInv names S l) {n : Tx} (hn : n ∈ names) {p : Pic} (hp : p ∈ S) (k : Int) : FInv names S (noteL l n p k) := by
  unfold noteL
  obtain ⟨h1, h2⟩ := h.own n
  split
  · refine h.put hn ⟨put_nodup h1, fun y hy => ?_⟩
    rcases put_mem hy with rfl | hy
    · exact ⟨hp, rfl⟩
    · exact h2 y hy
  · exact h.put hn ⟨h1, h2⟩
noncomputable def putL (s : Bool) (n : Tx) (co : Int) (xs ys : List (Pic × Int)) (l : Fnd) : Fnd := xs.foldl (fun l x => ys.foldl (fun l y => noteL l n (putT s x.1 y.1) (co + x.2 + y.2)) l) l
theorem FInv.fold {names : List Tx} {S : List Pic} {n : Tx} (hn : n ∈ names) {A : Type} {f : A → Pic × Int} : ∀ (ys : List A) {l : Fnd}, FInv names S l → (∀ y ∈ ys, (f y).1 ∈ S) → FInv names S (ys.foldl (fun l y => noteL l n (f y).1 (f y).2) l)
  | [], l, h, _ => h
  | y :: ys, l, h, hy => FInv.fold hn ys (h.note hn (hy y (List.mem_cons_self ..)) _) fun z hz => hy z (List.mem_cons_of_mem _ hz)
theorem FInv.putL {names : List Tx} {S : List Pic} {s : Bool} {n : Tx} (hn : n ∈ names) {co : Int} {ys : List (Pic × Int)} : ∀ (xs : List (Pic × Int)) {l : Fnd}, FInv names S l → (∀ x ∈ xs, ∀ y ∈ ys, putT s x.1 y.1 ∈ S) → FInv names S (putL s n co xs ys l)
  | [], l, h, _ => h
  | x :: xs, l, h, hy => FInv.putL hn xs (FInv.fold hn (f := fun y => (putT s x.1 y.1, co + x.2 + y.2)) ys h fun y hy' => hy x (List.mem_cons_self ..) y hy') fun z hz => hy z (List.mem_cons_of_mem _ hz)
local macro_rules | `(tactic| walk_at "le") => `(tactic| repeat (first | exact le_nil | refine le_cons ?_ | refine le_no ?_))
noncomputable abbrev FD := Dic Tx (Dic Tx (Pic × Int))
noncomputable def FD.l' (D : FD) : Fnd := D.l.map fun p => (p.1, p.2.l)
noncomputable def toFD (l : Fnd) : FD := Dic.mk (l.map fun p => (p.1, Dic.mk p.2))
theorem toFD_l {l : Fnd} : (toFD l).l' = l := by
  unfold toFD FD.l'
  rw [List.map_map, List.map_congr_left (g := id), List.map_id]
  intro p _
  rfl
noncomputable abbrev sO (C a dx da : Addr) (g : GramD) (l : List ((Int × Int) × FD)) : Own := ownC (i := repInst) (j := (repDic : Rep FD)) "grammar" "kept" C a dx da g l
noncomputable def sinitK (K : PySem.W.Frag) : Tw.Spec := fun A P _ => ∃ (C a dx : Addr) (g : GramD), A = [.own (ownI C a dx []), vl g] ∧ PySem.W.nsIn K mainGlobals "Sizes" = some (some (.ref C)) ∧ (∀ da, P (.chg repUnit () [sO C a dx da g []]))
noncomputable def vals (l : Fnd) (n : Tx) : List (Pic × Int) := (notes l n).map (·.2)
noncomputable def sputS (K : PySem.W.Frag) : Tw.Spec := fun A P _ => ∃ (C a dx da af : Addr) (g : GramD) (l : List ((Int × Int) × FD)) (lf : List FEnt) (q : RuleD) (s : Bool) (n : Tx) (co : Int) (u v : Tx) (one other : Int × Int) (D1 D2 : FD) (names : List Tx) (S : List Pic),
  A = [.own (sO C a dx da g l), .own (ownF af lf), vl q, vl one, vl other] ∧ PySem.W.nsIn K mainGlobals "Sizes" = some (some (.ref C)) ∧ q = (if s then .beside n co u v else .above n co u v) ∧ look l one = some D1 ∧ look l other = some D2 ∧ FInv names S (stripE lf) ∧ names.length ≤ 100 ∧ S.length ≤ 1000 ∧ n ∈ names ∧
  (∀ p ∈ S, ∃ r c, Pk p r c) ∧ (∀ x ∈ vals D1.l' u, ∀ y ∈ vals D2.l' v, PicIn x.1 ∧ PicIn y.1 ∧ fitsP s x.1 y.1 = true ∧ putT s x.1 y.1 ∈ S) ∧
  ∀ lf', stripE lf' = putL s n co (vals D1.l' u) (vals D2.l' v) (stripE lf) → P (.chg repUnit () [sO C a dx da g l, ownF af lf'])
section
variable {X : Cx} {Γ : List Slot} {pos p : Pos} {E : SE} {rest : List Stmt}
theorem st_retPtr (k1 k2 : Nat) {n : Str} {o1 o2 : Own} {d : Addr} (hk : k1 ≠ k2) (hd0 : o2.root = V.ref d) (hP : E.rt (.chg repPtr (Ptr.mk d) [o1, o2])) (hg1 : autoParam (Γ[k1]? = some (.own o1)) aRfl) (hg2 : autoParam (Γ[k2]? = some (.own o2)) aRfl)
    (hN : autoParam (X.N[k2]? = some n) aRfl) (hv : autoParam (Vis X.env.scope n) aVis) (hd : autoParam ((n == ("__debug__" : Str)) = false) aDec) (hcd : autoParam ((n == ("__classdict__" : Str)) = false) aDec) : ST X (.Return (some (.Name n p)) pos :: rest) Γ E := fun B F H σ D L ed => by
  obtain ⟨v, ev, ok', f'⟩ := slot_own L hg1
  obtain ⟨v2, ev2, ok2, f2⟩ := slot_own L hg2
  refine WP.cons (ps_ret (pe_var hN hv hd hcd)) ⟨v2, ev2, ed.rt (.chg repPtr (Ptr.mk d) [o1, o2]) _ F H hP L.ext ⟨by rw [o2.rt ok2, hd0]; rfl, fun o3 h3 => ?_, List.pairwise_pair.mpr (L.ap k1 k2 o1 o2 hk hg1 hg2)⟩⟩
  rcases List.mem_cons.mp h3 with e | h3
  · rw [e]; exact ⟨by rw [← o1.rt ok']; exact ok', fun b hb => ⟨(f' b hb).2, (f' b hb).1⟩⟩
  · rw [List.mem_singleton.mp h3]; exact ⟨by rw [← o2.rt ok2]; exact ok2, fun b hb => ⟨(f2 b hb).2, (f2 b hb).1⟩⟩
end
section
variable {P : Program} {w : World} {K : PySem.W.Frag} {mg : Str → Option Value} {base : Heap}
theorem ok_Sizes_init (T : Txt K mg) : HasM P w K mg base 1 "Sizes" "__init__" ["self", "grammar"] (sinitK K) := by
  refine HasM.ofI (k := 0) T.m_Sizes_init sc_Sizes_init (fun A Q R ⟨C, a, dx, g, e, _⟩ => by rw [e]; rfl) fun f cdv A outer s0 H E hr Γ Q R ⟨C, a, dx, g, e, hC, hq⟩ => ⟨ownI C a dx [], ?_⟩
  subst e
  obtain ⟨C', kC, gC⟩ := T.o_Sizes
  obtain rfl := ns_one kC.ns hC
  refine st_setF 0 (fs := []) (x := g) (ev_var 1) ?_ kC.cl (T.a_Sizes_grammar _ hC) rfl
  refine st_cinit 0 (f1 := "grammar") (f2 := "kept") (x := g) (Int × Int) (repDic : Rep FD) (fun da => st_nil ?_) (by decide) kC.cl (T.a_Sizes_kept _ hC)
  exact ⟨sO C a dx da g [], rfl, rfl, hq da⟩
theorem ok_Sizes_put (T : Txt K mg) : HasM P w K mg base 8 "Sizes" "put" ["self", "found", "rule", "one", "other"] (sputS K) := by
  refine HasM.ofI2 (k := 7) 1 T.m_Sizes_put sc_Sizes_put (fun A Q R ⟨C, a, dx, da, af, g, l, lf, q, s, n, co, u, v, one, other, D1, D2, names, S, e, _⟩ => by rw [e]; rfl) fun f cdv A outer s0 H E hr Γ Q R ⟨C, a, dx, da, af, g, l, lf, q, s, n, co, u, v, one, other, D1, D2, names, S, e, hC, eq, h1, h2, hI, hz1, hz2, hn, hS, hfit, hq⟩ => ⟨sO C a dx da g l, ?_⟩
  subst e
  obtain ⟨C', kC, gC⟩ := T.o_Sizes
  obtain rfl := ns_one kC.ns hC
  have hnm : q.name = n := by rw [eq]; cases s <;> rfl
  have hco : q.cost = co := by rw [eq]; cases s <;> rfl
  have two : NoA K q.cls "one" ∧ NoA K q.cls "other" ∧ q.flds.lookup ("one" : Str) = some (vl u) ∧ q.flds.lookup ("other" : Str) = some (vl v) ∧ q.turnOk ∧ q.parts.length = 2 := by
    rw [eq]
    cases s
    · exact ⟨T.a_AboveRule_one, T.a_AboveRule_other, rfl, rfl, trivial, rfl⟩
    · exact ⟨T.a_BesideRule_one, T.a_BesideRule_other, rfl, rfl, trivial, rfl⟩
  obtain ⟨t1, t2, t3, t4, t5, t6⟩ := two
  have hmade : ∀ x y : Pic, fitsP s x y = true → q.made [x, y] = some (putT s x y) := fun x y hf => by
    rw [eq]
    cases s <;> exact if_pos hf
  refine st_for (xs := vals D1.l' u) (fun m Γ' => ∃ lf', Le Γ' [.own (sO C a dx da g l), .own (ownF af lf'), vl q, vl one, vl other, .no, .no, .no, .no] ∧ stripE lf' = putL s n co ((vals D1.l' u).take m) (vals D2.l' v) (stripE lf)) (src_list (ev_of_en (en_call (ok_made_ofD T) (hr.mono (by decide)) (ea_cons (x := D1) (ev_cget 0 (f1 := "grammar") (f2 := "kept") hr (by decide) kC.cl (T.a_Sizes_kept _ hC) (ev_var (x := one) 3) h1) (ea_cons (x := u) (ev_fld (x := q) (y := u) (o_cls T q) t1 rfl t3 (ev_var 2)) ea_nil)) fun P' R' h => ⟨D1, u, rfl, h⟩))) (tg_pair 5 6 (by decide)) ⟨lf, Le.refl, rfl⟩ (fun m x Γ' hm hP => ?_) (fun Γ' hP => ?_) (pg2 5 6 (pgn 5 sc_Sizes_put.nd) (pgn 6 sc_Sizes_put.nd))
  · obtain ⟨lf1, le, e1⟩ := hP
    have hxm := List.mem_of_getElem? hm
    have hI1 : FInv names S (stripE lf1) := by rw [e1]; exact FInv.putL hn _ hI fun x' hx' y hy => (hfit x' (List.mem_of_mem_take hx') y hy).2.2.2
    refine st_le (Le.set (Le.set le 5 _) 6 _) ?_
    refine st_le (Γ' := [.own (sO C a dx da g l), .own (ownF af lf1), vl q, vl one, vl other, vl x.1, vl x.2, .no, .no]) (by walk_at "le") ?_
    refine st_for (xs := vals D2.l' v) (fun m2 Γ' => ∃ lf', Le Γ' [.own (sO C a dx da g l), .own (ownF af lf'), vl q, vl one, vl other, vl x.1, vl x.2, .no, .no] ∧ stripE lf' = ((vals D2.l' v).take m2).foldl (fun l y => noteL l n (putT s x.1 y.1) (co + x.2 + y.2)) (stripE lf1)) (src_list (ev_of_en (en_call (ok_made_ofD T) (hr.mono (by decide)) (ea_cons (x := D2) (ev_cget 0 (f1 := "grammar") (f2 := "kept") hr (by decide) kC.cl (T.a_Sizes_kept _ hC) (ev_var (x := other) 4) h2) (ea_cons (x := v) (ev_fld (x := q) (y := v) (o_cls T q) t2 rfl t4 (ev_var 2)) ea_nil)) fun P' R' h => ⟨D2, v, rfl, h⟩))) (tg_pair 7 8 (by decide)) ⟨lf1, Le.refl, rfl⟩ (fun m2 y Γ2 hm2 hP2 => ?_) (fun Γ2 hP2 => ?_) (pg2 7 8 (pgn 7 sc_Sizes_put.nd) (pgn 8 sc_Sizes_put.nd))
    · obtain ⟨lf2, le2, e2⟩ := hP2
      have hym := List.mem_of_getElem? hm2
      obtain ⟨px, py, hf, hin⟩ := hfit x hxm y hym
      have hI2 : FInv names S (stripE lf2) := by rw [e2]; exact FInv.fold hn (f := fun y => (putT s x.1 y.1, co + x.2 + y.2)) _ hI1 fun y' hy' => (hfit x hxm y' (List.mem_of_mem_take hy')).2.2.2
      obtain ⟨r, c, hpk⟩ := hS _ hin
      have b1 := hI2.len
      have b2 := hI2.lenN n
      refine st_le (Le.set (Le.set le2 7 _) 8 _) ?_
      refine st_le (Γ' := [.own (sO C a dx da g l), .own (ownF af lf2), vl q, vl one, vl other, vl x.1, vl x.2, vl y.1, vl y.2]) (by walk_at "le") ?_
      refine st_dropG (P := fun _ Γ' => ∃ lf', stripE lf' = noteL (stripE lf2) n (putT s x.1 y.1) (co + x.2 + y.2) ∧ Γ' = [.own (sO C a dx da g l), .own (ownF af lf'), vl q, vl one, vl other, vl x.1, vl x.2, vl y.1, vl y.2]) (R := fun _ _ => False) (eg_call 1 (i := repBool) (G := fun _ o => ∃ lf', stripE lf' = noteL (stripE lf2) n (putT s x.1 y.1) (co + x.2 + y.2) ∧ o = ownF af lf') (ok_note T) (hr.mono (by decide)) (eab_o 1 (eab_v (x := n) (ev_fld (x := q) (y := n) (o_cls T q) (a_name T q) rfl (hnm ▸ RuleD.f_name _) (ev_var 2)) (eab_v (x := putT s x.1 y.1) (ev_of_en (en_of_ex (ex_of_exx (exx_meth (o_cls T q) (ok_made T q) (hr.mono (by decide)) rfl (RuleD.f_made _) (ev_var 2) (ea_cons (x := [x.1, y.1]) (ev_of_en (en_lst (es_cons (ev_var (x := x.1) 5) (es_cons (ev_var (x := y.1) 7) es_nil)))) ea_nil) fun P' R' h _ => ⟨q, [x.1, y.1], rfl, rfl, t5, t6.symm, fun z hz => (by
        rcases List.mem_cons.mp hz with rfl | hz
        · exact px
        · rw [List.mem_singleton.mp hz]; exact py), fun z hz => (by rw [hmade _ _ hf] at hz; cases hz; exact h _ rfl), fun z => (by rw [hmade _ _ hf] at z; cases z)⟩)))) (eab_v (x := co + x.2 + y.2) (ev_bin o_add (ev_bin o_add (ev_fld (x := q) (y := co) (o_cls T q) (a_cost T q) rfl (hco ▸ RuleD.f_cost _) (ev_var 2)) (ev_var (x := x.2) 6)) (ev_var (x := y.2) 8)) eab_nil)))) rfl rfl (fun _ _ ⟨_, _, e⟩ => by rw [e]; rfl) (fun _ o ⟨lf', h1, h2⟩ => ⟨lf', h1, by rw [h2]; rfl⟩) fun P' R' h _ => ⟨af, lf2, n, putT s x.1 y.1, r, c, co + x.2 + y.2, rfl, hpk, lt_line (by omega), lt_line (by omega), fun lf' hl' => h _ _ ⟨lf', hl', rfl⟩⟩) (fun _ Γ3 hG => ?_) (fun _ _ z => z.elim)
      obtain ⟨lf3, e3, rfl⟩ := hG
      refine st_nil ⟨lf3, by walk_at "le", ?_⟩
      rw [e3, e2, List.take_add_one, hm2, List.foldl_append]
      rfl
    · obtain ⟨lf2, le2, e2⟩ := hP2
      rw [List.take_length] at e2
      refine st_le le2 ?_
      refine st_nil ⟨lf2, by walk_at "le", ?_⟩
      rw [e2, e1]
      unfold putL
      rw [List.take_add_one, hm, List.foldl_append]
      rfl
  · obtain ⟨lf1, le, e1⟩ := hP
    rw [List.take_length] at e1
    refine st_le le (st_nil ⟨sO C a dx da g l, ownF af lf1, rfl, rfl, by decide, rfl, hq lf1 e1⟩)
end
local macro_rules | `(tactic| walk_at "le") => `(tactic| repeat (first | exact le_nil | refine le_cons ?_ | refine le_no ?_))
structure SOk (S : Int × Int → List Pic) (M : Int) : Prop where
  pk : ∀ r c p, p ∈ S (r, c) → ∃ r' c' : Nat, Pk p r' c' ∧ (r' : Int) = r ∧ (c' : Int) = c
  side : ∀ r a b p q, p ∈ S (r, a) → q ∈ S (r, b) → a + b ≤ 6 → putT true p q ∈ S (r, a + b)
  over : ∀ c a b p q, p ∈ S (a, c) → q ∈ S (b, c) → a + b ≤ 6 → putT false p q ∈ S (a + b, c)
  turn : ∀ r c p (t : Int), 0 ≤ t → t ≤ 7 → p ∈ S (r, c) → turned p t.toNat ∈ S (if t % 2 = 1 then (c, r) else (r, c))
  few : ∀ r c, r * c ≤ M → (S (r, c)).length ≤ 1000
noncomputable abbrev KeptL := List ((Int × Int) × FD)
noncomputable def KOk (S : Int × Int → List Pic) (names : List Tx) (l : KeptL) : Prop := ∀ z D, look l z = some D → FInv names (S z) D.l'
noncomputable def valsK (l : KeptL) (z : Int × Int) (n : Tx) : List (Pic × Int) := match look l z with
  | some D => vals D.l' n
  | none => []
noncomputable def begunR (l : KeptL) (r c : Int) (f : Fnd) : RuleD → Fnd
  | .cell n co s => if r = 1 ∧ c = 1 then noteL f n [s] co else f
  | .beside n co u v => (rng 1 (c - 1).toNat).foldl (fun f a => putL true n co (valsK l (r, a) u) (valsK l (r, c - a) v) f) f
  | .above n co u v => (rng 1 (r - 1).toNat).foldl (fun f a => putL false n co (valsK l (a, c) u) (valsK l (r - a, c) v) f) f
  | .turn .. => f
noncomputable def begunL (rs : List RuleD) (l : KeptL) (r c : Int) : Fnd := rs.foldl (fun f q => begunR l r c f q) []
theorem vals_in {S : Int × Int → List Pic} {names : List Tx} {l : KeptL} (h : KOk S names l) {z : Int × Int} {n : Tx} {x : Pic × Int} (hx : x ∈ valsK l z n) : x.1 ∈ S z := by
  unfold valsK at hx
  split at hx
  · rename_i D hD
    obtain ⟨y, hy, rfl⟩ := List.mem_map.mp hx
    exact (((h z D hD).own n).2 y hy).1
  · exact (List.not_mem_nil hx).elim
theorem sd_ok {S : Int × Int → List Pic} {names : List Tx} {l : KeptL} {M : Int} (hS : SOk S M) (h : KOk S names l) {r c a : Int} (hc : c ≤ 6) {u v : Tx} {x y : Pic × Int} (hx : x ∈ valsK l (r, a) u) (hy : y ∈ valsK l (r, c - a) v) : PicIn x.1 ∧ PicIn y.1 ∧ fitsP true x.1 y.1 = true ∧ putT true x.1 y.1 ∈ S (r, c) := by
  have h1 := vals_in h hx
  have h2 := vals_in h hy
  obtain ⟨r1, c1, k1, e1, e2⟩ := hS.pk _ _ _ h1
  obtain ⟨r2, c2, k2, e3, e4⟩ := hS.pk _ _ _ h2
  refine ⟨⟨_, _, k1⟩, ⟨_, _, k2⟩, ?_, ?_⟩
  · rw [PicIn.fits k1 k2]
    show (decide (r1 = r2) && decide (c1 + c2 ≤ 6)) = true
    rw [decide_eq_true (by omega), decide_eq_true (by omega)]; rfl
  · have := hS.side r a (c - a) _ _ h1 h2 (by omega)
    rwa [show a + (c - a) = c by omega] at this
theorem ov_ok {S : Int × Int → List Pic} {names : List Tx} {l : KeptL} {M : Int} (hS : SOk S M) (h : KOk S names l) {r c a : Int} (hc : r ≤ 6) {u v : Tx} {x y : Pic × Int} (hx : x ∈ valsK l (a, c) u) (hy : y ∈ valsK l (r - a, c) v) : PicIn x.1 ∧ PicIn y.1 ∧ fitsP false x.1 y.1 = true ∧ putT false x.1 y.1 ∈ S (r, c) := by
  have h1 := vals_in h hx
  have h2 := vals_in h hy
  obtain ⟨r1, c1, k1, e1, e2⟩ := hS.pk _ _ _ h1
  obtain ⟨r2, c2, k2, e3, e4⟩ := hS.pk _ _ _ h2
  refine ⟨⟨_, _, k1⟩, ⟨_, _, k2⟩, ?_, ?_⟩
  · rw [PicIn.fits k1 k2]
    show (decide (c1 = c2) && decide (r1 + r2 ≤ 6)) = true
    rw [decide_eq_true (by omega), decide_eq_true (by omega)]; rfl
  · have := hS.over c a (r - a) _ _ h1 h2 (by omega)
    rwa [show a + (r - a) = r by omega] at this
theorem FInv.many {names : List Tx} {S : List Pic} {s : Bool} {n : Tx} (hn : n ∈ names) {co : Int} {f g : Int → List (Pic × Int)} : ∀ (as : List Int) {l : Fnd}, FInv names S l → (∀ a, ∀ x ∈ f a, ∀ y ∈ g a, putT s x.1 y.1 ∈ S) → FInv names S (as.foldl (fun l a => Law.putL s n co (f a) (g a) l) l)
  | [], l, h, _ => h
  | a :: as, l, h, hy => FInv.many hn as (FInv.putL hn _ h (hy a)) hy
theorem FInv.begunR {S : Int × Int → List Pic} {names : List Tx} {l : KeptL} {M : Int} (hS : SOk S M) (h : KOk S names l) {r c : Int} (hr : r ≤ 6) (hc : c ≤ 6) {f : Fnd} (hf : FInv names (S (r, c)) f) {q : RuleD} (hn : q.name ∈ names) (hcell : ∀ n co s, q = .cell n co s → r = 1 → c = 1 → [s] ∈ S (1, 1)) : FInv names (S (r, c)) (begunR l r c f q) := by
  cases q with
  | cell n co s =>
    show FInv names (S (r, c)) (if r = 1 ∧ c = 1 then noteL f n [s] co else f)
    split
    · rename_i h1
      refine hf.note hn ?_ co
      rw [h1.1, h1.2]
      exact hcell n co s rfl h1.1 h1.2
    · exact hf
  | beside n co u v => exact FInv.many hn _ hf fun a x hx y hy => (sd_ok hS h hc hx hy).2.2.2
  | above n co u v => exact FInv.many hn _ hf fun a x hx y hy => (ov_ok hS h hr hx hy).2.2.2
  | turn n co a t => exact hf
theorem FInv.begun {S : Int × Int → List Pic} {names : List Tx} {l : KeptL} {M : Int} (hS : SOk S M) (h : KOk S names l) {r c : Int} (hr : r ≤ 6) (hc : c ≤ 6) : ∀ (rs : List RuleD) {f : Fnd}, FInv names (S (r, c)) f → (∀ q ∈ rs, q.name ∈ names) → (∀ n co s, RuleD.cell n co s ∈ rs → r = 1 → c = 1 → [s] ∈ S (1, 1)) → FInv names (S (r, c)) (rs.foldl (fun f q => Law.begunR l r c f q) f)
  | [], f, hf, _, _ => hf
  | q :: rs, f, hf, hn, hcell => FInv.begun hS h hr hc rs (hf.begunR hS h hr hc (hn q (List.mem_cons_self ..)) fun n co s e => hcell n co s (by rw [← e]; exact List.mem_cons_self ..)) (fun q' hq' => hn q' (List.mem_cons_of_mem _ hq')) fun n co s hm => hcell n co s (List.mem_cons_of_mem _ hm)
noncomputable def sbegunS (K : PySem.W.Frag) : Tw.Spec := fun A P _ => ∃ (C a dx da : Addr) (g : GramD) (l : KeptL) (S : Int × Int → List Pic) (M : Int) (r c : Int),
  A = [.own (sO C a dx da g l), vl r, vl c] ∧ PySem.W.nsIn K mainGlobals "Sizes" = some (some (.ref C)) ∧ g.Made ∧ SOk S M ∧ KOk S g.names l ∧ r * c ≤ M ∧ 1 ≤ r ∧ r ≤ 6 ∧ 1 ≤ c ∧ c ≤ 6 ∧ (∀ a, 1 ≤ a → a < c → (look l (r, a)).isSome = true) ∧ (∀ a, 1 ≤ a → a < r → (look l (a, c)).isSome = true) ∧ (∀ n co s, RuleD.cell n co s ∈ g.rules → r = 1 → c = 1 → [s] ∈ S (1, 1)) ∧
  ∀ af lf, stripE lf = begunL g.rules l r c → P (.chg repPtr (Ptr.mk af) [sO C a dx da g l, ownF af lf])
theorem valsK_some {l : KeptL} {z : Int × Int} {D : FD} (h : look l z = some D) (n : Tx) : valsK l z n = vals D.l' n := by
  unfold valsK
  rw [h]
local macro_rules | `(tactic| walk_at "le") => `(tactic| repeat (first | exact le_nil | refine le_cons ?_ | refine le_no ?_))
theorem made_nmZ {g : GramD} (h : g.Made) {q : RuleD} (hq : q ∈ g.rules) : q.name ∈ g.names := by
  rw [h.ok.nm]
  exact metAll_mem.mpr (.inr ⟨q, hq, List.mem_cons_self ..⟩)
section
variable {P : Program} {w : World} {K : PySem.W.Frag} {mg : Str → Option Value} {base : Heap}
theorem ok_Sizes_begun (T : Txt K mg) : HasM P w K mg base 10 "Sizes" "begun" ["self", "rows", "columns"] (sbegunS K) := by
  refine HasM.of (k := 9) T.m_Sizes_begun sc_Sizes_begun (fun A Q R ⟨C, a, dx, da, g, l, S, M, r, c, e, _⟩ => by rw [e]; rfl) fun f cdv A outer s0 H E hr Γ Q R ⟨C, a, dx, da, g, l, S, M, r, c, e, hC, hg, hS, hK, hM, r1, r6, c1, c6, hk1, hk2, hcell, hq⟩ => ?_
  subst e
  obtain ⟨C', kC, gC⟩ := T.o_Sizes
  obtain rfl := ns_one kC.ns hC
  have hnames : g.names.length ≤ 100 := by have := hg.ok.n8; omega
  have hnm : ∀ q ∈ g.rules, q.name ∈ g.names := fun q hq' => made_nmZ hg hq'
  refine st_setDD0 (repPair : Rep (Pic × Int)) 3 (fun af => ?_) sc_Sizes_begun.nd
  refine st_for (xs := g.rules) (fun m Γ' => ∃ lf, Le Γ' [.own (sO C a dx da g l), vl r, vl c, .own (ownF af lf), .no, .no] ∧ stripE lf = (g.rules.take m).foldl (fun f q => begunR l r c f q) []) (src_list (ev_of_en (en_meth0 (x := g) T.o_Grammar (ok_Grammar_rules T) (hr.mono (by decide)) rfl (lk rfl) (ev_cfld 0 kC.cl (T.a_Sizes_grammar _ hC)) fun P' R' z => ⟨g, rfl, z⟩))) (tg_name 4) ⟨[], Le.refl, rfl⟩ (fun m q Γ' hm hP => ?_) (fun Γ' hP => ?_) (pgn 4 sc_Sizes_begun.nd)
  · obtain ⟨lf1, le, e1⟩ := hP
    have hqm := List.mem_of_getElem? hm
    have hqn := hnm q hqm
    have hI1 : FInv g.names (S (r, c)) (stripE lf1) := by
      rw [e1]
      exact FInv.begun hS hK r6 c6 _ FInv.nil (fun q' hq' => hnm q' (List.mem_of_mem_take hq')) fun n co s hm' => hcell n co s (List.mem_of_mem_take hm')
    have b1 := hI1.len
    have hfew := hS.few r c hM
    have hPk : ∀ p ∈ S (r, c), ∃ r c, Pk p r c := fun p hp => by
      obtain ⟨r', c', hk, _⟩ := hS.pk _ _ _ hp
      exact ⟨r', c', hk⟩
    have hnext : ∀ lf2 : List FEnt, stripE lf2 = begunR l r c (stripE lf1) q → stripE lf2 = (g.rules.take (m + 1)).foldl (fun f q => begunR l r c f q) [] := fun lf2 e2 => by
      rw [e2, e1, List.take_add_one, hm, List.foldl_append]
      rfl
    refine st_le (Le.set le 4 _) ?_
    refine st_le (Γ' := [.own (sO C a dx da g l), vl r, vl c, .own (ownF af lf1), vl q, .no]) (by walk_at "le") ?_
    have loop : ∀ (s : Bool) (n : Tx) (co : Int) (u v : Tx), q = (if s then .beside n co u v else .above n co u v) → ∀ (lf2 : List FEnt) (at' : Int) (one other : Int × Int) (hI2 : FInv g.names (S (r, c)) (stripE lf2)) (h1 : (look l one).isSome = true) (h2 : (look l other).isSome = true) (hfit : ∀ x ∈ valsK l one u, ∀ y ∈ valsK l other v, PicIn x.1 ∧ PicIn y.1 ∧ fitsP s x.1 y.1 = true ∧ putT s x.1 y.1 ∈ S (r, c)), ∀ (P' : Ret → Prop) (R' : Exn → Prop), (∀ lf', stripE lf' = putL s n co (valsK l one u) (valsK l other v) (stripE lf2) → P' (.chg repUnit () [sO C a dx da g l, ownF af lf'])) → sputS K [.own (sO C a dx da g l), .own (ownF af lf2), vl q, vl one, vl other] P' R' := fun s n co u v eq lf2 at' one other hI2 h1 h2 hfit P' R' h => by
      obtain ⟨D1, hD1⟩ := Option.isSome_iff_exists.mp h1
      obtain ⟨D2, hD2⟩ := Option.isSome_iff_exists.mp h2
      rw [valsK_some hD1, valsK_some hD2] at hfit h
      exact ⟨C, a, dx, da, af, g, l, lf2, q, s, n, co, u, v, one, other, D1, D2, g.names, S (r, c), rfl, hC, eq, hD1, hD2, hI2, hnames, hfew, by rw [eq] at hqn; cases s <;> exact hqn, hPk, hfit, h⟩
    cases q with
    | cell n co sg =>
      by_cases h11 : r = 1 ∧ c = 1
      · obtain ⟨rfl, rfl⟩ := h11
        refine st_if (k := true) (et_eq (et_and3 (et_val (ev_isiI T.b_isinstance T.o_CellRule T.o_CellRule T.u_CellRule_CellRule rfl (ev_var (x := RuleD.cell n co sg) 4))) (fun _ => et_cmp o_eq (ev_var 1) ev_int) fun _ _ => et_cmp o_eq (ev_var 2) ev_int) rfl) (fun _ => ?_) (fun h => nomatch h)
        have hin := hcell n co sg hqm rfl rfl
        obtain ⟨r', c', hpk⟩ := hPk _ hin
        refine st_dropG (P := fun _ Γ' => ∃ lf', stripE lf' = noteL (stripE lf1) n [sg] co ∧ Γ' = [.own (sO C a dx da g l), vl (1 : Int), vl (1 : Int), .own (ownF af lf'), vl (RuleD.cell n co sg), .no]) (R := fun _ _ => False) (eg_call 3 (i := repBool) (G := fun _ o => ∃ lf', stripE lf' = noteL (stripE lf1) n [sg] co ∧ o = ownF af lf') (ok_note T) (hr.mono (by decide)) (eab_o 3 (eab_v (x := n) (ev_fld (x := RuleD.cell n co sg) (y := n) T.o_CellRule (a_name T (.cell n co sg)) rfl rfl (ev_var 4)) (eab_v (x := ([sg] : Pic)) (ev_of_en (en_of_ex (ex_of_exx (exx_meth (o_cls T (.cell n co sg)) (ok_made T (.cell n co sg)) (hr.mono (by decide)) rfl (RuleD.f_made _) (ev_var 4) (ea_cons (x := ([] : List Pic)) (ev_of_en (en_nil Pic)) ea_nil) fun P' R' h _ => ⟨.cell n co sg, [], rfl, rfl, trivial, rfl, (fun z hz => (List.not_mem_nil hz).elim), fun z hz => (by cases hz; exact h _ rfl), fun z => (by cases z)⟩)))) (eab_v (x := co) (ev_fld (x := RuleD.cell n co sg) (y := co) T.o_CellRule (a_cost T (.cell n co sg)) rfl rfl (ev_var 4)) eab_nil)))) rfl rfl (fun _ _ ⟨_, _, e⟩ => by rw [e]; rfl) (fun _ o ⟨lf', h1, h2⟩ => ⟨lf', h1, by rw [h2]; rfl⟩) fun P' R' h _ => ⟨af, lf1, n, [sg], r', c', co, rfl, hpk, lt_line (by omega), lt_line (by have := hI1.lenN n; omega), fun lf' hl' => h _ _ ⟨lf', hl', rfl⟩⟩) (fun _ Γ3 hG => ?_) (fun _ _ z => z.elim)
        obtain ⟨lf3, e3, rfl⟩ := hG
        exact st_nil (st_if (k := false) (et_val (ev_isiI T.b_isinstance T.o_CellRule T.o_BesideRule T.u_CellRule_BesideRule rfl (ev_var (x := RuleD.cell n co sg) 4))) (fun h => nomatch h) (fun _ => st_nil (st_if (k := false) (et_val (ev_isiI T.b_isinstance T.o_CellRule T.o_AboveRule T.u_CellRule_AboveRule rfl (ev_var (x := RuleD.cell n co sg) 4))) (fun h => nomatch h) (fun _ => st_nil (st_nil ⟨lf3, by walk_at "le", hnext lf3 (by rw [e3]; rfl)⟩)))))
      · refine st_if (k := false) (et_eq (et_and3 (k := true) (m := decide (r = 1)) (n := decide (c = 1)) (et_val (ev_isiI T.b_isinstance T.o_CellRule T.o_CellRule T.u_CellRule_CellRule rfl (ev_var (x := RuleD.cell n co sg) 4))) (fun _ => et_cmp o_eq (ev_var 1) ev_int) fun _ _ => et_cmp o_eq (ev_var 2) ev_int) (by
          cases hd : decide (r = 1)
          · rfl
          · rw [decide_eq_false fun z => h11 ⟨of_decide_eq_true hd, z⟩]; rfl)) (fun h => nomatch h) (fun _ => st_nil ?_)
        exact st_if (k := false) (et_val (ev_isiI T.b_isinstance T.o_CellRule T.o_BesideRule T.u_CellRule_BesideRule rfl (ev_var (x := RuleD.cell n co sg) 4))) (fun h => nomatch h) (fun _ => st_nil (st_if (k := false) (et_val (ev_isiI T.b_isinstance T.o_CellRule T.o_AboveRule T.u_CellRule_AboveRule rfl (ev_var (x := RuleD.cell n co sg) 4))) (fun h => nomatch h) (fun _ => st_nil (st_nil ⟨lf1, by walk_at "le", hnext lf1 (by show _ = (if r = 1 ∧ c = 1 then _ else _); rw [if_neg h11])⟩))))
    | beside n co u v =>
      refine st_if (k := false) (et_eq (et_and3 (k := false) (m := true) (n := true) (et_val (ev_isiI T.b_isinstance T.o_BesideRule T.o_CellRule T.u_BesideRule_CellRule rfl (ev_var (x := RuleD.beside n co u v) 4))) (fun h => nomatch h) fun h => nomatch h) rfl) (fun h => nomatch h) (fun _ => st_nil ?_)
      refine st_if (k := true) (et_val (ev_isiI T.b_isinstance T.o_BesideRule T.o_BesideRule T.u_BesideRule_BesideRule rfl (ev_var (x := RuleD.beside n co u v) 4))) (fun _ => ?_) (fun h => nomatch h)
      refine st_for (xs := rng 1 (c - 1).toNat) (fun m2 Γ' => ∃ lf', Le Γ' [.own (sO C a dx da g l), vl r, vl c, .own (ownF af lf'), vl (RuleD.beside n co u v), .no] ∧ stripE lf' = ((rng 1 (c - 1).toNat).take m2).foldl (fun f a => putL true n co (valsK l (r, a) u) (valsK l (r, c - a) v) f) (stripE lf1)) (src_range2 (m := 1) (n := c) T.b_range ev_int (ev_var 2) (by omega)) (tg_name 5) ⟨lf1, Le.refl, rfl⟩ (fun m2 x Γ2 hm2 hP2 => ?_) (fun Γ2 hP2 => ?_) (pgn 5 sc_Sizes_begun.nd)
      · obtain ⟨lf2, le2, e2⟩ := hP2
        obtain ⟨hx1, hx2⟩ := rng_get hm2
        have hI2 : FInv g.names (S (r, c)) (stripE lf2) := by
          rw [e2]
          exact FInv.many hqn _ hI1 fun a' x hx y hy => (sd_ok hS hK c6 hx hy).2.2.2
        refine st_le (Le.set le2 5 _) ?_
        refine st_le (Γ' := [.own (sO C a dx da g l), vl r, vl c, .own (ownF af lf2), vl (RuleD.beside n co u v), vl x]) (by walk_at "le") ?_
        refine st_dropG (P := fun _ Γ' => ∃ lf', stripE lf' = putL true n co (valsK l (r, x) u) (valsK l (r, c - x) v) (stripE lf2) ∧ Γ' = [.own (sO C a dx da g l), vl r, vl c, .own (ownF af lf'), vl (RuleD.beside n co u v), vl x]) (R := fun _ _ => False) (eg_meth2 0 3 (lr := repUnit) (m := "put") (G := fun _ o o2 => o = sO C a dx da g l ∧ ∃ lf', stripE lf' = putL true n co (valsK l (r, x) u) (valsK l (r, c - x) v) (stripE lf2) ∧ o2 = ownF af lf') (by decide) T.o_Sizes (ok_Sizes_put T) (hr.mono (by decide)) hC (by decide) (by decide) (eab_o 3 (eab_v (x := RuleD.beside n co u v) (ev_var 4) (eab_v (x := ((r, x) : Int × Int)) (ev_pair (ev_var (x := r) 1) (ev_var (x := x) 5)) (eab_v (x := ((r, c - x) : Int × Int)) (ev_pair (ev_var (x := r) 1) (ev_bin o_sub (ev_var (x := c) 2) (ev_var (x := x) 5))) eab_nil)))) rfl rfl rfl (fun _ _ _ ⟨e1, _, _, e2⟩ => by rw [e1, e2]; exact ⟨rfl, rfl⟩) (fun _ o o2 ⟨e1, lf', e2, e3⟩ => ⟨lf', e2, by rw [e1, e3]; rfl⟩) fun P' R' h => loop true n co u v rfl lf2 x (r, x) (r, c - x) hI2 (hk1 x (by omega) (by omega)) (hk1 (c - x) (by omega) (by omega)) (fun x' hx' y hy => sd_ok hS hK c6 hx' hy) P' R' fun lf' hl' => h _ _ _ ⟨rfl, lf', hl', rfl⟩) (fun _ Γ3 hG => ?_) (fun _ _ z => z.elim)
        obtain ⟨lf3, e3, rfl⟩ := hG
        refine st_nil ⟨lf3, by walk_at "le", ?_⟩
        rw [e3, e2, List.take_add_one, hm2, List.foldl_append]
        rfl
      · obtain ⟨lf2, le2, e2⟩ := hP2
        rw [List.take_length] at e2
        refine st_le le2 (st_nil (st_if (k := false) (et_val (ev_isiI T.b_isinstance T.o_BesideRule T.o_AboveRule T.u_BesideRule_AboveRule rfl (ev_var (x := RuleD.beside n co u v) 4))) (fun h => nomatch h) (fun _ => st_nil (st_nil ⟨lf2, by walk_at "le", hnext lf2 (by rw [e2]; rfl)⟩))))
    | above n co u v =>
      refine st_if (k := false) (et_eq (et_and3 (k := false) (m := true) (n := true) (et_val (ev_isiI T.b_isinstance T.o_AboveRule T.o_CellRule T.u_AboveRule_CellRule rfl (ev_var (x := RuleD.above n co u v) 4))) (fun h => nomatch h) fun h => nomatch h) rfl) (fun h => nomatch h) (fun _ => st_nil ?_)
      refine st_if (k := false) (et_val (ev_isiI T.b_isinstance T.o_AboveRule T.o_BesideRule T.u_AboveRule_BesideRule rfl (ev_var (x := RuleD.above n co u v) 4))) (fun h => nomatch h) (fun _ => st_nil ?_)
      refine st_if (k := true) (et_val (ev_isiI T.b_isinstance T.o_AboveRule T.o_AboveRule T.u_AboveRule_AboveRule rfl (ev_var (x := RuleD.above n co u v) 4))) (fun _ => ?_) (fun h => nomatch h)
      refine st_for (xs := rng 1 (r - 1).toNat) (fun m2 Γ' => ∃ lf', Le Γ' [.own (sO C a dx da g l), vl r, vl c, .own (ownF af lf'), vl (RuleD.above n co u v), .no] ∧ stripE lf' = ((rng 1 (r - 1).toNat).take m2).foldl (fun f a => putL false n co (valsK l (a, c) u) (valsK l (r - a, c) v) f) (stripE lf1)) (src_range2 (m := 1) (n := r) T.b_range ev_int (ev_var 1) (by omega)) (tg_name 5) ⟨lf1, Le.refl, rfl⟩ (fun m2 x Γ2 hm2 hP2 => ?_) (fun Γ2 hP2 => ?_) (pgn 5 sc_Sizes_begun.nd)
      · obtain ⟨lf2, le2, e2⟩ := hP2
        obtain ⟨hx1, hx2⟩ := rng_get hm2
        have hI2 : FInv g.names (S (r, c)) (stripE lf2) := by
          rw [e2]
          exact FInv.many hqn _ hI1 fun a' x hx y hy => (ov_ok hS hK r6 hx hy).2.2.2
        refine st_le (Le.set le2 5 _) ?_
        refine st_le (Γ' := [.own (sO C a dx da g l), vl r, vl c, .own (ownF af lf2), vl (RuleD.above n co u v), vl x]) (by walk_at "le") ?_
        refine st_dropG (P := fun _ Γ' => ∃ lf', stripE lf' = putL false n co (valsK l (x, c) u) (valsK l (r - x, c) v) (stripE lf2) ∧ Γ' = [.own (sO C a dx da g l), vl r, vl c, .own (ownF af lf'), vl (RuleD.above n co u v), vl x]) (R := fun _ _ => False) (eg_meth2 0 3 (lr := repUnit) (m := "put") (G := fun _ o o2 => o = sO C a dx da g l ∧ ∃ lf', stripE lf' = putL false n co (valsK l (x, c) u) (valsK l (r - x, c) v) (stripE lf2) ∧ o2 = ownF af lf') (by decide) T.o_Sizes (ok_Sizes_put T) (hr.mono (by decide)) hC (by decide) (by decide) (eab_o 3 (eab_v (x := RuleD.above n co u v) (ev_var 4) (eab_v (x := ((x, c) : Int × Int)) (ev_pair (ev_var (x := x) 5) (ev_var (x := c) 2)) (eab_v (x := ((r - x, c) : Int × Int)) (ev_pair (ev_bin o_sub (ev_var (x := r) 1) (ev_var (x := x) 5)) (ev_var (x := c) 2)) eab_nil)))) rfl rfl rfl (fun _ _ _ ⟨e1, _, _, e2⟩ => by rw [e1, e2]; exact ⟨rfl, rfl⟩) (fun _ o o2 ⟨e1, lf', e2, e3⟩ => ⟨lf', e2, by rw [e1, e3]; rfl⟩) fun P' R' h => loop false n co u v rfl lf2 x (x, c) (r - x, c) hI2 (hk2 x (by omega) (by omega)) (hk2 (r - x) (by omega) (by omega)) (fun x' hx' y hy => ov_ok hS hK r6 hx' hy) P' R' fun lf' hl' => h _ _ _ ⟨rfl, lf', hl', rfl⟩) (fun _ Γ3 hG => ?_) (fun _ _ z => z.elim)
        obtain ⟨lf3, e3, rfl⟩ := hG
        refine st_nil ⟨lf3, by walk_at "le", ?_⟩
        rw [e3, e2, List.take_add_one, hm2, List.foldl_append]
        rfl
      · obtain ⟨lf2, le2, e2⟩ := hP2
        rw [List.take_length] at e2
        exact st_le le2 (st_nil (st_nil ⟨lf2, by walk_at "le", hnext lf2 (by rw [e2]; rfl)⟩))
    | turn n co b t =>
      refine st_if (k := false) (et_eq (et_and3 (k := false) (m := true) (n := true) (et_val (ev_isiI T.b_isinstance T.o_TurnRule T.o_CellRule T.u_TurnRule_CellRule rfl (ev_var (x := RuleD.turn n co b t) 4))) (fun h => nomatch h) fun h => nomatch h) rfl) (fun h => nomatch h) (fun _ => st_nil ?_)
      refine st_if (k := false) (et_val (ev_isiI T.b_isinstance T.o_TurnRule T.o_BesideRule T.u_TurnRule_BesideRule rfl (ev_var (x := RuleD.turn n co b t) 4))) (fun h => nomatch h) (fun _ => st_nil ?_)
      exact st_if (k := false) (et_val (ev_isiI T.b_isinstance T.o_TurnRule T.o_AboveRule T.u_TurnRule_AboveRule rfl (ev_var (x := RuleD.turn n co b t) 4))) (fun h => nomatch h) (fun _ => st_nil (st_nil ⟨lf1, by walk_at "le", hnext lf1 rfl⟩))
  · obtain ⟨lf1, le, e1⟩ := hP
    rw [List.take_length] at e1
    refine st_le le ?_
    exact st_retPtr 0 3 (by decide) rfl (hq af lf1 e1)
end
noncomputable abbrev SzSt := List ((Int × Int) × Fnd)
noncomputable def getS (w : SzSt) (z : Int × Int) : Fnd := (look w z).getD []
noncomputable def szOf (p : Pic) : Int × Int := ((p.length : Int), ((p.headD []).length : Int))
noncomputable def tStep (n : Tx) (co t : Int) (w : SzSt × Bool) (x : Pic × Int) : SzSt × Bool :=
  (put w.1 (szOf (turned x.1 t.toNat)) (noteL (getS w.1 (szOf (turned x.1 t.toNat))) n (turned x.1 t.toNat) (co + x.2)), w.2 || noteB (getS w.1 (szOf (turned x.1 t.toNat))) n (turned x.1 t.toNat) (co + x.2))
noncomputable def tFound (n a : Tx) (co t : Int) (w : SzSt × Bool) (z : Int × Int) : SzSt × Bool := (vals (getS w.1 z) a).foldl (tStep n co t) w
noncomputable def tRule (zs : List (Int × Int)) (w : SzSt × Bool) : RuleD → SzSt × Bool
  | .turn n co a t => zs.foldl (tFound n a co t) w
  | _ => w
noncomputable def tPass (zs : List (Int × Int)) (rs : List RuleD) (w : SzSt × Bool) : SzSt × Bool := rs.foldl (fun w q => tRule zs w q) w
noncomputable def itT (zs : List (Int × Int)) (rs : List RuleD) : Nat → SzSt → SzSt
  | 0, st => st
  | k + 1, st => (tPass zs rs (itT zs rs k st, false)).1
noncomputable abbrev BEnt := (Int × Int) × Addr × List FEnt
noncomputable def stB (bs : List BEnt) : SzSt := bs.map fun b => (b.1, stripE b.2.2)
noncomputable abbrev bPt (b : BEnt) : (Int × Int) × Ptr := (b.1, Ptr.mk b.2.1)
noncomputable abbrev bOwn (b : BEnt) : Own := ownF b.2.1 b.2.2
noncomputable abbrev bO (ab : Addr) (bs : List BEnt) : Own := ownW (ownD (Int × Int) repPtr ab (bs.map bPt)) (bs.map bOwn)
theorem stB_keys (bs : List BEnt) : (stB bs).map (·.1) = bs.map (·.1) := by
  unfold stB
  rw [List.map_map]; rfl
theorem look_mapB {A : Type} {f : BEnt → A} : ∀ {bs : List BEnt} {j : Nat} {b : BEnt}, (bs.map (·.1)).Nodup → bs[j]? = some b → look (bs.map fun b => (b.1, f b)) b.1 = some (f b)
  | [], j, b, _, h => by cases h
  | x :: bs, 0, b, _, h => by
    cases h
    exact look_pos (p := (x.1, f x)) rfl
  | x :: bs, j + 1, b, nd, h => by
    rw [List.map_cons, List.nodup_cons] at nd
    have h : bs[j]? = some b := h
    rw [List.map_cons, look_neg (p := (x.1, f x)) fun z => nd.1 (by
      have z : x.1 = b.1 := z
      rw [z]; exact List.mem_map.mpr ⟨b, List.mem_of_getElem? h, rfl⟩)]
    exact look_mapB nd.2 h
theorem getS_at {bs : List BEnt} {j : Nat} {z : Int × Int} {a : Addr} {lf : List FEnt} (nd : (bs.map (·.1)).Nodup) (h : bs[j]? = some (z, a, lf)) : getS (stB bs) z = stripE lf := by
  unfold getS stB
  rw [look_mapB (f := fun b => stripE b.2.2) nd h]
  rfl
theorem put_at {A : Type} {f : BEnt → A} {v : A} {b' : BEnt} (hv : f b' = v) : ∀ {bs : List BEnt} {j : Nat} {b : BEnt}, (bs.map (·.1)).Nodup → bs[j]? = some b → b'.1 = b.1 → (bs.set j b').map (fun b => (b.1, f b)) = (bs.map fun b => (b.1, f b)).map fun p => if p.1 = b.1 then (p.1, v) else p
  | [], j, b, _, h, _ => by cases h
  | x :: bs, 0, b, nd, h, hb => by
    cases h
    rw [List.map_cons, List.nodup_cons] at nd
    rw [List.set_cons_zero, List.map_cons, List.map_cons, List.map_cons, if_pos rfl, hb, hv]
    congr 1
    rw [List.map_map]
    refine List.map_congr_left fun y hy => ?_
    exact (if_neg fun z => nd.1 (by
      have z : y.1 = x.1 := z
      rw [← z]; exact List.mem_map.mpr ⟨y, hy, rfl⟩)).symm
  | x :: bs, j + 1, b, nd, h, hb => by
    rw [List.map_cons, List.nodup_cons] at nd
    have h : bs[j]? = some b := h
    rw [List.set_cons_succ, List.map_cons, List.map_cons, List.map_cons, put_at hv nd.2 h hb]
    congr 1
    exact (if_neg fun z => nd.1 (by
      have z : x.1 = b.1 := z
      rw [z]; exact List.mem_map.mpr ⟨b, List.mem_of_getElem? h, rfl⟩)).symm
theorem stB_set {bs : List BEnt} {j : Nat} {z : Int × Int} {a : Addr} {lf lf' : List FEnt} (nd : (bs.map (·.1)).Nodup) (h : bs[j]? = some (z, a, lf)) : stB (bs.set j (z, a, lf')) = put (stB bs) z (stripE lf') := by
  unfold put
  rw [if_pos (show ((stB bs).any fun p => decide (p.1 = z)) = true from List.any_eq_true.mpr ⟨(z, stripE lf), List.mem_map.mpr ⟨_, List.mem_of_getElem? h, rfl⟩, decide_eq_true rfl⟩)]
  exact put_at (f := fun b => stripE b.2.2) rfl nd h rfl
theorem bPt_set {bs : List BEnt} {j : Nat} {z : Int × Int} {a : Addr} {lf lf' : List FEnt} (h : bs[j]? = some (z, a, lf)) : (bs.set j (z, a, lf')).map bPt = bs.map bPt := by
  rw [List.map_set]
  refine List.ext_getElem? fun k => ?_
  rw [List.getElem?_set]
  split
  · rename_i e
    subst e
    rw [List.getElem?_map, h]
    split
    · rfl
    · rename_i hl
      rw [List.length_map] at hl
      exact absurd (List.getElem?_eq_some_iff.mp h).1 hl
  · rfl
local macro_rules | `(tactic| walk_at "le") => `(tactic| repeat (first | exact le_nil | refine le_cons ?_ | refine le_no ?_))
section
variable {X : Cx} {Γ : List Slot} {e : Expr}
theorem ev_tupII {x y : Int} (h : EV X Γ e (Tup.mk [x, y])) : EV X Γ e ((x, y) : Int × Int) := ev_conv h fun K F v r => by
  obtain ⟨a, vs, rfl, ha, pr⟩ := r
  cases pr with
  | cons r1 pr => cases pr with
    | cons r2 pr =>
      cases pr
      exact ⟨a, _, _, rfl, ha, r1, r2⟩
end
noncomputable def FAll (S : Int × Int → List Pic) (names : List Tx) (st : SzSt) : Prop := ∀ z f, look st z = some f → FInv names (S z) f
noncomputable def sturnS (K : PySem.W.Frag) : Tw.Spec := fun A P _ => ∃ (C a dx da ab : Addr) (g : GramD) (l : KeptL) (bs : List BEnt) (S : Int × Int → List Pic) (M : Int) (N : Nat),
  A = [.own (sO C a dx da g l), .own (bO ab bs)] ∧ PySem.W.nsIn K mainGlobals "Sizes" = some (some (.ref C)) ∧ g.Made ∧ SOk S M ∧ (∀ z ∈ bs.map (·.1), z.1 * z.2 ≤ M) ∧ FAll S g.names (stB bs) ∧ (bs.map (·.1)).Nodup ∧ bs.length ≤ 2 ∧ (∀ z ∈ bs.map (·.1), 1 ≤ z.1 ∧ z.1 ≤ 6 ∧ 1 ≤ z.2 ∧ z.2 ≤ 6 ∧ (z.2, z.1) ∈ bs.map (·.1)) ∧
  (∀ k, k < N → (tPass (bs.map (·.1)) g.rules (itT (bs.map (·.1)) g.rules k (stB bs), false)).2 = true) ∧ (tPass (bs.map (·.1)) g.rules (itT (bs.map (·.1)) g.rules N (stB bs), false)).2 = false ∧
  ∀ bs', bs'.map bPt = bs.map bPt → stB bs' = itT (bs.map (·.1)) g.rules (N + 1) (stB bs) → P (.chg repUnit () [sO C a dx da g l, bO ab bs'])
theorem FAll.put {S : Int × Int → List Pic} {names : List Tx} {st : SzSt} (h : FAll S names st) {z : Int × Int} {f : Fnd} (hf : FInv names (S z) f) : FAll S names (put st z f) := fun z' f' hz => by
  rw [look_put] at hz
  split at hz
  · rename_i e
    cases hz
    rw [e]; exact hf
  · exact h z' f' hz
theorem FAll.get {S : Int × Int → List Pic} {names : List Tx} {st : SzSt} (h : FAll S names st) (z : Int × Int) : FInv names (S z) (getS st z) := by
  unfold getS
  cases hl : look st z with
  | none => exact FInv.nil
  | some f => exact h z f hl
theorem szOf_pk {p : Pic} {r c : Nat} (h : Pk p r c) : szOf p = ((r : Int), (c : Int)) := by
  unfold szOf
  rw [h.len, h.head.2]
theorem SOk.turnZ {S : Int × Int → List Pic} {M : Int} (hS : SOk S M) {z : Int × Int} {p : Pic} {t : Int} (h0 : 0 ≤ t) (h7 : t ≤ 7) (hp : p ∈ S z) : turned p t.toNat ∈ S (szOf (turned p t.toNat)) ∧ (szOf (turned p t.toNat) = z ∨ szOf (turned p t.toNat) = (z.2, z.1)) := by
  have h1 := hS.turn z.1 z.2 p t h0 h7 hp
  by_cases ht : t % 2 = 1
  · rw [if_pos ht] at h1
    obtain ⟨r', c', hk, e1, e2⟩ := hS.pk _ _ _ h1
    have e := szOf_pk hk
    rw [e1, e2] at e
    rw [e]
    exact ⟨h1, .inr rfl⟩
  · rw [if_neg ht] at h1
    obtain ⟨r', c', hk, e1, e2⟩ := hS.pk _ _ _ h1
    have e := szOf_pk hk
    rw [e1, e2] at e
    rw [e]
    exact ⟨h1, .inl rfl⟩
theorem FAll.step {S : Int × Int → List Pic} {M : Int} (hS : SOk S M) {names : List Tx} {w : SzSt × Bool} (h : FAll S names w.1) {n : Tx} (hn : n ∈ names) {co t : Int} (h0 : 0 ≤ t) (h7 : t ≤ 7) {z : Int × Int} {x : Pic × Int} (hx : x.1 ∈ S z) : FAll S names (tStep n co t w x).1 :=
  h.put ((h.get _).note hn (hS.turnZ h0 h7 hx).1 _)
theorem FAll.steps {S : Int × Int → List Pic} {M : Int} (hS : SOk S M) {names : List Tx} {n : Tx} (hn : n ∈ names) {co t : Int} (h0 : 0 ≤ t) (h7 : t ≤ 7) {z : Int × Int} : ∀ (xs : List (Pic × Int)) {w : SzSt × Bool}, FAll S names w.1 → (∀ x ∈ xs, x.1 ∈ S z) → FAll S names (xs.foldl (tStep n co t) w).1
  | [], _, h, _ => h
  | x :: xs, w, h, hx => FAll.steps hS hn h0 h7 xs (h.step hS hn h0 h7 (hx x (List.mem_cons_self ..))) fun y hy => hx y (List.mem_cons_of_mem _ hy)
theorem vals_of {S : Int × Int → List Pic} {names : List Tx} {f : Fnd} {z : Int × Int} (h : FInv names (S z) f) {a : Tx} {x : Pic × Int} (hx : x ∈ vals f a) : x.1 ∈ S z := by
  obtain ⟨y, hy, rfl⟩ := List.mem_map.mp hx
  exact ((h.own a).2 y hy).1
theorem FAll.found {S : Int × Int → List Pic} {M : Int} (hS : SOk S M) {names : List Tx} {n : Tx} (hn : n ∈ names) {a : Tx} {co t : Int} (h0 : 0 ≤ t) (h7 : t ≤ 7) : ∀ (zs : List (Int × Int)) {w : SzSt × Bool}, FAll S names w.1 → FAll S names (zs.foldl (tFound n a co t) w).1
  | [], _, h => h
  | z :: zs, w, h => FAll.found hS hn h0 h7 zs (FAll.steps hS hn h0 h7 (z := z) _ h fun _ hx => vals_of (h.get z) hx)
theorem good_turn {n : Tx} {co : Int} {a : Tx} {t : Int} (h : (RuleD.turn n co a t).good = true) : 0 ≤ t ∧ t ≤ 7 := by
  have h : ((decide (0 ≤ t) && decide (t ≤ 7)) && ((costOk co && isName n) && isName a)) = true := h
  rw [Bool.and_eq_true, Bool.and_eq_true, decide_eq_true_eq, decide_eq_true_eq] at h
  exact h.1
theorem FAll.pass {S : Int × Int → List Pic} {M : Int} (hS : SOk S M) {names : List Tx} {zs : List (Int × Int)} : ∀ (rs : List RuleD) {w : SzSt × Bool}, (∀ q ∈ rs, q.name ∈ names ∧ q.good = true) → FAll S names w.1 → FAll S names (tPass zs rs w).1
  | [], _, _, h => h
  | q :: rs, w, hr, h => by
    have hq := hr q (List.mem_cons_self ..)
    refine FAll.pass hS rs (w := tRule zs w q) (fun q' hq' => hr q' (List.mem_cons_of_mem _ hq')) ?_
    cases q with
    | turn n co a t =>
      obtain ⟨h0, h7⟩ := good_turn hq.2
      exact FAll.found hS hq.1 h0 h7 zs h
    | cell n co s => exact h
    | beside n co u v => exact h
    | above n co u v => exact h
local macro_rules | `(tactic| walk_at "le") => `(tactic| repeat (first | exact le_nil | refine le_cons ?_ | refine le_no ?_))
theorem setL_self {A : Type} {l : List A} {k : Nat} {x : A} (h : l[k]? = some x) : l.set k x = l := by
  refine List.ext_getElem? fun j => ?_
  rw [List.getElem?_set]
  split
  · rename_i e
    subst e
    rw [if_pos (List.getElem?_eq_some_iff.mp h).1, h]
  · rfl
theorem foldl_snoc {A B : Type} {f : B → A → B} {l : List A} {m : Nat} {x : A} {b : B} (h : l[m]? = some x) : (l.take (m + 1)).foldl f b = f ((l.take m).foldl f b) x := by
  rw [List.take_add_one, h, List.foldl_append]
  rfl
section
variable {P : Program} {w : World} {K : PySem.W.Frag} {mg : Str → Option Value} {base : Heap}
theorem ok_Sizes_turned_on (T : Txt K mg) : HasM P w K mg base 12 "Sizes" "turned_on" ["self", "both"] (sturnS K) := by
  refine HasM.ofI2 (k := 11) 1 T.m_Sizes_turned_on sc_Sizes_turned_on (fun A Q R ⟨C, a, dx, da, ab, g, l, bs, S, M, N, e, _⟩ => by rw [e]; rfl) fun f cdv A outer s0 H E hr Γ Q R ⟨C, a, dx, da, ab, g, l, bs, S, M, N, e, hC, hg, hS, hM, hF, nd, hb2, hz, hgo, hst, hq⟩ => ⟨sO C a dx da g l, ?_⟩
  subst e
  obtain ⟨C', kC, gC⟩ := T.o_Sizes
  obtain rfl := ns_one kC.ns hC
  have hnames : g.names.length ≤ 100 := by have := hg.ok.n8; omega
  have hrs : ∀ q ∈ g.rules, q.name ∈ g.names ∧ q.good = true := fun q hq' => ⟨made_nmZ hg hq', hg.ok.rs q hq'⟩
  obtain ⟨zs, ezs⟩ : ∃ zs, zs = bs.map (·.1) := ⟨_, rfl⟩
  rw [← ezs] at nd hz hgo hst hq hM
  obtain ⟨st0, est⟩ : ∃ st0, st0 = stB bs := ⟨_, rfl⟩
  rw [← est] at hF hgo hst hq
  have keysOf : ∀ bs' : List BEnt, bs'.map bPt = bs.map bPt → bs'.map (·.1) = zs := fun bs' h => by
    have := congrArg (List.map (·.1)) h
    rw [List.map_map, List.map_map] at this
    rw [ezs]; exact this
  have hFk : ∀ k, FAll S g.names (itT zs g.rules k st0) := fun k => by
    induction k with
    | zero => exact hF
    | succ k ih => exact FAll.pass hS _ hrs ih
  refine st_set 2 (x := true) ev_bl ?_ sc_Sizes_turned_on.nd
  refine st_while (fun m Γ' => ∃ (bs' : List BEnt) (k : Nat), Le Γ' [.own (sO C a dx da g l), .own (bO ab bs'), vl (decide (k ≤ N)), .no, .no, .no, .no, .no] ∧ bs'.map bPt = bs.map bPt ∧ stB bs' = itT zs g.rules k st0 ∧ k ≤ N + 1 ∧ m = N + 1 - k) (N + 1) ⟨bs, 0, by rw [decide_eq_true (Nat.zero_le N)]; walk_at "le", rfl, est.symm, Nat.zero_le _, rfl⟩ fun m Γ' hP => ?_
  obtain ⟨bs1, k, le, hbp, hst1, hk, hm⟩ := hP
  have hkeys := keysOf bs1 hbp
  refine ⟨decide (k ≤ N), et_le le (et_val (ev_var 2)), fun hgo1 => st_le le ?_, fun hgo1 => st_le le ?_⟩
  · have hkN : k ≤ N := of_decide_eq_true hgo1
    refine st_set 2 (x := false) ev_bl ?_ sc_Sizes_turned_on.nd
    refine st_for (xs := g.rules) (fun m2 Γ' => ∃ (bs2 : List BEnt) (go : Bool), Le Γ' [.own (sO C a dx da g l), .own (bO ab bs2), vl go, .no, .no, .no, .no, .no] ∧ bs2.map bPt = bs.map bPt ∧ (stB bs2, go) = (g.rules.take m2).foldl (fun w q => tRule zs w q) (itT zs g.rules k st0, false)) (src_list (ev_of_en (en_meth0 (x := g) T.o_Grammar (ok_Grammar_rules T) (hr.mono (by decide)) rfl (lk rfl) (ev_cfld 0 kC.cl (T.a_Sizes_grammar _ hC)) fun P' R' z => ⟨g, rfl, z⟩))) (tg_name 3) ⟨bs1, false, by walk_at "le", hbp, by rw [hst1]; rfl⟩ (fun m2 q Γ2 hm2 hP2 => ?_) (fun Γ2 hP2 => ?_) (pgn 3 sc_Sizes_turned_on.nd)
    · obtain ⟨bs2, go, le2, hbp2, e2⟩ := hP2
      have hqm := List.mem_of_getElem? hm2
      obtain ⟨hqn, hqg⟩ := hrs q hqm
      have hF2 : FAll S g.names (stB bs2) := by
        have := FAll.pass hS (names := g.names) (zs := zs) (g.rules.take m2) (w := (itT zs g.rules k st0, false)) (fun q' hq' => hrs q' (List.mem_of_mem_take hq')) (hFk k)
        unfold tPass at this
        rw [← e2] at this
        exact this
      refine st_le (Le.set le2 3 _) ?_
      refine st_le (Γ' := [.own (sO C a dx da g l), .own (bO ab bs2), vl go, vl q, .no, .no, .no, .no]) (by walk_at "le") ?_
      have other : (∀ n co b t, q ≠ .turn n co b t) → tRule zs (stB bs2, go) q = (stB bs2, go) := fun h => by
        cases q with
        | turn n co b t => exact absurd rfl (h n co b t)
        | cell n co s => rfl
        | beside n co u v => rfl
        | above n co u v => rfl
      cases q with
      | cell n co s => exact st_if (k := false) (et_val (ev_isiI T.b_isinstance T.o_CellRule T.o_TurnRule T.u_CellRule_TurnRule rfl (ev_var (x := RuleD.cell n co s) 3))) (fun h => nomatch h) (fun _ => st_nil (st_nil ⟨bs2, go, by walk_at "le", hbp2, by rw [foldl_snoc hm2, ← e2]; rfl⟩))
      | beside n co u v => exact st_if (k := false) (et_val (ev_isiI T.b_isinstance T.o_BesideRule T.o_TurnRule T.u_BesideRule_TurnRule rfl (ev_var (x := RuleD.beside n co u v) 3))) (fun h => nomatch h) (fun _ => st_nil (st_nil ⟨bs2, go, by walk_at "le", hbp2, by rw [foldl_snoc hm2, ← e2]; rfl⟩))
      | above n co u v => exact st_if (k := false) (et_val (ev_isiI T.b_isinstance T.o_AboveRule T.o_TurnRule T.u_AboveRule_TurnRule rfl (ev_var (x := RuleD.above n co u v) 3))) (fun h => nomatch h) (fun _ => st_nil (st_nil ⟨bs2, go, by walk_at "le", hbp2, by rw [foldl_snoc hm2, ← e2]; rfl⟩))
      | turn n co b t =>
        obtain ⟨t0, t7⟩ := good_turn hqg
        refine st_if (k := true) (et_val (ev_isiI T.b_isinstance T.o_TurnRule T.o_TurnRule T.u_TurnRule_TurnRule rfl (ev_var (x := RuleD.turn n co b t) 3))) (fun _ => ?_) (fun h => nomatch h)
        have hbp32 : bs2.map bPt = bs.map bPt := hbp2
        refine st_for (xs := (bs2.map bPt).map (·.2)) (fun m3 Γ' => ∃ (bs3 : List BEnt) (go3 : Bool), Le Γ' [.own (sO C a dx da g l), .own (bO ab bs3), vl go3, vl (RuleD.turn n co b t), .no, .no, .no, .no] ∧ bs3.map bPt = bs.map bPt ∧ (stB bs3, go3) = (zs.take m3).foldl (tFound n b co t) (stB bs2, go)) (src_list (ev_of_en (en_lendO 1 (frozW frozD) (en_valsP (l := (Dic.mk (bs2.map bPt) : Dic (Int × Int) Ptr)) (ev_var 1) T.b_list)))) (tg_name 4) ⟨bs2, go, Le.refl, hbp2, rfl⟩ (fun m3 x Γ3 hm3 hP3 => ?_) (fun Γ3 hP3 => ?_) (pgn 4 sc_Sizes_turned_on.nd)
        · obtain ⟨bs3, go3, le3, hbp3, e3⟩ := hP3
          rw [hbp2, ← hbp3, List.map_map, List.getElem?_map] at hm3
          obtain ⟨⟨z, a', lf'⟩, hb3, rfl⟩ := Option.map_eq_some_iff.mp hm3
          have hk3 := keysOf bs3 hbp3
          have hz3 : zs[m3]? = some z := by rw [← hk3, List.getElem?_map, hb3]; rfl
          have nd3 : (bs3.map (·.1)).Nodup := by rw [hk3]; exact nd
          have hF3 : FAll S g.names (stB bs3) := by
            have := FAll.found hS (n := n) hqn (a := b) (co := co) t0 t7 (zs.take m3) (w := (stB bs2, go)) hF2
            rw [← e3] at this
            exact this
          have hg3 := getS_at nd3 hb3
          have hz' := hz z (List.mem_of_getElem? hz3)
          refine st_le (Le.set le3 4 _) ?_
          refine st_le (Γ' := [.own (sO C a dx da g l), .own (bO ab bs3), vl go3, vl (RuleD.turn n co b t), vl (Ptr.mk a'), .no, .no, .no]) (by walk_at "le") ?_
          have hown : (bs3.map bOwn)[m3]? = some (ownF a' lf') := by rw [List.getElem?_map, hb3]; rfl
          refine st_forG (N := fun xs Γ' => xs = vals (stripE lf') b ∧ Γ' = [.own (sO C a dx da g l), .own (bO ab bs3), vl go3, vl (RuleD.turn n co b t), vl (Ptr.mk a'), .no, .no, .no]) (srcG_list (eg_callPart 1 m3 (i := repList) (d := a') (P := fun r Γ' => ∃ xs, (xs = vals (stripE lf') b ∧ Γ' = [.own (sO C a dx da g l), .own (bO ab bs3), vl go3, vl (RuleD.turn n co b t), vl (Ptr.mk a'), .no, .no, .no]) ∧ r = .val repList xs) (G := fun xs o' => xs = vals (stripE lf') b ∧ o' = ownF a' lf') (ok_made_of T) (hr.mono (by decide)) (ev_var 4) (ea_cons (x := b) (ev_fld (x := RuleD.turn n co b t) (y := b) T.o_TurnRule T.a_TurnRule_part rfl rfl (ev_var 3)) ea_nil) rfl rfl hown rfl (fun xs o' ⟨h1, h2⟩ => ⟨xs, ⟨h1, by rw [h2, setL_self hown]; rfl⟩, rfl⟩) fun P' R' h => ⟨a', lf', b, rfl, h _ _ ⟨rfl, rfl⟩⟩)) (tg_pair 5 6 (by decide)) (fun xs Γ1 ⟨hxs, hΓ1⟩ => ?_) (pg2 5 6 (pgn 5 sc_Sizes_turned_on.nd) (pgn 6 sc_Sizes_turned_on.nd))
          subst hxs hΓ1
          refine ⟨fun m4 Γ' => ∃ (bs4 : List BEnt) (go4 : Bool), Le Γ' [.own (sO C a dx da g l), .own (bO ab bs4), vl go4, vl (RuleD.turn n co b t), vl (Ptr.mk a'), .no, .no, .no] ∧ bs4.map bPt = bs.map bPt ∧ (stB bs4, go4) = ((vals (stripE lf') b).take m4).foldl (tStep n co t) (stB bs3, go3), ⟨bs3, go3, Le.refl, hbp3, rfl⟩, fun m4 y Γ4 hm4 hP4 => ?_, fun Γ4 hP4 => ?_⟩
          · obtain ⟨bs4, go4, le4, hbp4, e4⟩ := hP4
            have hFz : FInv g.names (S z) (stripE lf') := by rw [← hg3]; exact hF3.get z
            have hyS : y.1 ∈ S z := vals_of hFz (List.mem_of_getElem? hm4)
            have hF4 : FAll S g.names (stB bs4) := by
              have := FAll.steps hS (n := n) hqn (co := co) t0 t7 (z := z) ((vals (stripE lf') b).take m4) (w := (stB bs3, go3)) hF3 fun x hx => vals_of hFz (List.mem_of_mem_take hx)
              rw [← e4] at this
              exact this
            obtain ⟨hpS, hpz⟩ := hS.turnZ t0 t7 hyS
            obtain ⟨ry, cy, ky, _, _⟩ := hS.pk z.1 z.2 y.1 hyS
            obtain ⟨p, ep⟩ : ∃ p, p = turned y.1 t.toNat := ⟨_, rfl⟩
            rw [← ep] at hpS hpz
            obtain ⟨rp, cp, kp, _, _⟩ := hS.pk (szOf p).1 (szOf p).2 p hpS
            have hpin : szOf p ∈ zs := by
              rcases hpz with h | h
              · rw [h]; exact List.mem_of_getElem? hz3
              · rw [h]; exact hz'.2.2.2.2
            have hfew : (S (szOf p)).length ≤ 1000 := hS.few (szOf p).1 (szOf p).2 (hM _ hpin)
            have hk4 := keysOf bs4 hbp4
            have nd4 : (bs4.map (·.1)).Nodup := by rw [hk4]; exact nd
            rw [← hk4] at hpin
            obtain ⟨⟨z2, a2, lf2⟩, hb2m, ez2⟩ := List.mem_map.mp hpin
            have ez2 : z2 = szOf p := ez2
            subst ez2
            obtain ⟨j2, hj2⟩ := List.mem_iff_getElem?.mp hb2m
            have hg4 := getS_at nd4 hj2
            have hI4 : FInv g.names (S (szOf p)) (stripE lf2) := by rw [← hg4]; exact hF4.get _
            have hown4 : (bs4.map bOwn)[j2]? = some (ownF a2 lf2) := by rw [List.getElem?_map, hj2]; rfl
            have b1 := hI4.len
            have b2 := hI4.lenN n
            refine st_le (Le.set (Le.set le4 5 _) 6 _) ?_
            refine st_le (Γ' := [.own (sO C a dx da g l), .own (bO ab bs4), vl go4, vl (RuleD.turn n co b t), vl (Ptr.mk a'), vl y.1, vl y.2, .no]) (by walk_at "le") ?_
            refine st_set 7 (x := p) (ev_eq (ev_of_en (en_of_ex (ex_of_exx (exx_meth (o_cls T (.turn n co b t)) (ok_made T (.turn n co b t)) (hr.mono (by decide)) rfl (RuleD.f_made _) (ev_var 3) (ea_cons (x := [y.1]) (ev_of_en (en_lst (es_cons (ev_var (x := y.1) 5) es_nil))) ea_nil) fun P' R' h _ => ⟨.turn n co b t, [y.1], rfl, rfl, t0, rfl, fun z hz => (by rw [List.mem_singleton.mp hz]; exact ⟨_, _, ky⟩), fun z hz => (by cases hz; exact h _ rfl), fun z => (by cases z)⟩)))) ep.symm) ?_ sc_Sizes_turned_on.nd
            refine st_le (Γ' := [.own (sO C a dx da g l), .own (bO ab bs4), vl go4, vl (RuleD.turn n co b t), vl (Ptr.mk a'), vl y.1, vl y.2, vl p]) (by walk_at "le") ?_
            have eStep : ∀ lf3 : List FEnt, stripE lf3 = noteL (stripE lf2) n p (co + y.2) → (stB (bs4.set j2 (szOf p, a2, lf3)), go4 || noteB (stripE lf2) n p (co + y.2)) = ((vals (stripE lf') b).take (m4 + 1)).foldl (tStep n co t) (stB bs3, go3) := fun lf3 h3 => by
              rw [foldl_snoc hm4, ← e4, stB_set nd4 hj2, h3]
              unfold tStep
              rw [← ep, hg4]
            refine st_ifG (N := fun bb Γ' => ∃ lf3, bb = noteB (stripE lf2) n p (co + y.2) ∧ stripE lf3 = noteL (stripE lf2) n p (co + y.2) ∧ Γ' = [.own (sO C a dx da g l), .own (bO ab (bs4.set j2 (szOf p, a2, lf3))), vl go4, vl (RuleD.turn n co b t), vl (Ptr.mk a'), vl y.1, vl y.2, vl p]) (etg_val (eg_callPart 1 j2 (i := repBool) (d := a2) (P := fun r Γ' => ∃ bb, (∃ lf3, bb = noteB (stripE lf2) n p (co + y.2) ∧ stripE lf3 = noteL (stripE lf2) n p (co + y.2) ∧ Γ' = [.own (sO C a dx da g l), .own (bO ab (bs4.set j2 (szOf p, a2, lf3))), vl go4, vl (RuleD.turn n co b t), vl (Ptr.mk a'), vl y.1, vl y.2, vl p]) ∧ r = .val repBool bb) (G := fun bb o' => ∃ lf3, bb = noteB (stripE lf2) n p (co + y.2) ∧ stripE lf3 = noteL (stripE lf2) n p (co + y.2) ∧ o' = ownF a2 lf3) (ok_note T) (hr.mono (by decide)) (ev_lendO 1 (frozW frozD) (ev_dget hr (l := (Dic.mk (bs4.map bPt) : Dic (Int × Int) Ptr)) (x := szOf p) (y := Ptr.mk a2) (ev_var 1) (ev_eq (ev_tupII (ev_call (x := (Tup.mk [(rp : Int), (cp : Int)] : Tup Int)) (ok_size_of T) (hr.mono (by decide)) (ea_cons (x := p) (ev_var 7) ea_nil) fun P' R' h => ⟨p, rp, cp, rfl, kp, h⟩)) (szOf_pk kp).symm) (look_mapB (f := fun b => Ptr.mk b.2.1) nd4 hj2))) (ea_cons (x := n) (ev_fld (x := RuleD.turn n co b t) (y := n) T.o_TurnRule (a_name T (.turn n co b t)) rfl rfl (ev_var 3)) (ea_cons (x := p) (ev_var 7) (ea_cons (x := co + y.2) (ev_bin o_add (ev_fld (x := RuleD.turn n co b t) (y := co) T.o_TurnRule (a_cost T (.turn n co b t)) rfl rfl (ev_var 3)) (ev_var (x := y.2) 6)) ea_nil))) rfl rfl hown4 rfl (fun bb o' ⟨lf3, h1, h2, h3⟩ => ⟨bb, ⟨lf3, h1, h2, by
              rw [h3]
              show [_, Slot.own (ownW (ownD (Int × Int) repPtr ab (bs4.map bPt)) ((bs4.map bOwn).set j2 (ownF a2 lf3))), _, _, _, _, _, _] = _
              rw [← bPt_set (lf' := lf3) hj2, ← List.map_set (f := bOwn) (a := (szOf p, a2, lf3))]⟩, rfl⟩) fun P' R' h => ⟨a2, lf2, n, p, rp, cp, co + y.2, rfl, kp, lt_line (by omega), lt_line (by omega), fun lf3 h3 => h _ _ ⟨lf3, rfl, h3, rfl⟩⟩)) (fun Γ5 hN5 => ?_) (fun Γ5 hN5 => ?_)
            · obtain ⟨lf3, hbb, h3, rfl⟩ := hN5
              refine st_set 2 (x := true) ev_bl (st_nil (st_nil ⟨bs4.set j2 (szOf p, a2, lf3), true, by walk_at "le", by rw [bPt_set hj2]; exact hbp4, ?_⟩)) sc_Sizes_turned_on.nd
              rw [← eStep lf3 h3, ← hbb, Bool.or_true]
            · obtain ⟨lf3, hbb, h3, rfl⟩ := hN5
              refine st_nil (st_nil ⟨bs4.set j2 (szOf p, a2, lf3), go4, by walk_at "le", by rw [bPt_set hj2]; exact hbp4, ?_⟩)
              rw [← eStep lf3 h3, ← hbb, Bool.or_false]
          · obtain ⟨bs4, go4, le4, hbp4, e4⟩ := hP4
            rw [List.take_length] at e4
            refine st_le le4 (st_nil ⟨bs4, go4, by walk_at "le", hbp4, ?_⟩)
            rw [foldl_snoc hz3, ← e3, e4]
            unfold tFound
            rw [hg3]
        · obtain ⟨bs3, go3, le3, hbp3, e3⟩ := hP3
          rw [List.length_map, List.length_map] at e3
          have hl : bs2.length = zs.length := by rw [← keysOf bs2 hbp2, List.length_map]
          rw [hl, List.take_length] at e3
          refine st_le le3 (st_nil (st_nil ⟨bs3, go3, by walk_at "le", hbp3, ?_⟩))
          rw [foldl_snoc hm2, ← e2, e3]
          rfl
    · obtain ⟨bs2, go, le2, hbp2, e2⟩ := hP2
      rw [List.take_length] at e2
      have e3 : (tPass zs g.rules (itT zs g.rules k st0, false)) = (stB bs2, go) := e2.symm
      refine st_le le2 (st_nil ⟨N + 1 - (k + 1), by omega, bs2, k + 1, ?_, hbp2, ?_, by omega, rfl⟩)
      · have : go = decide (k + 1 ≤ N) := by
          rcases Nat.lt_or_ge k N with h | h
          · have := hgo k h
            rw [e3] at this
            rw [decide_eq_true (by omega)]; exact this
          · obtain rfl : k = N := by omega
            rw [e3] at hst
            rw [decide_eq_false (by omega)]; exact hst
        rw [← this]
        walk_at "le"
      · show stB bs2 = (tPass zs g.rules (itT zs g.rules k st0, false)).1
        rw [e3]
  · have hkN : ¬ k ≤ N := of_decide_eq_false hgo1
    obtain rfl : k = N + 1 := by omega
    exact st_nil ⟨sO C a dx da g l, bO ab bs1, rfl, rfl, by decide, rfl, hq bs1 hbp hst1⟩
end
local macro_rules | `(tactic| walk_at "le") => `(tactic| repeat (first | exact le_nil | refine le_cons ?_ | refine le_no ?_))
noncomputable def st0L (rs : List RuleD) (l : KeptL) (r c : Int) : SzSt := if r = c then [((r, c), begunL rs l r c)] else [((r, c), begunL rs l r c), ((c, r), begunL rs l c r)]
noncomputable def fillL (rs : List RuleD) (N : Nat) (l : KeptL) (r c : Int) : KeptL := puts l ((itT ((st0L rs l r c).map (·.1)) rs (N + 1) (st0L rs l r c)).map fun w => (w.1, toFD w.2))
noncomputable def sfillS (K : PySem.W.Frag) : Tw.Spec := fun A P _ => ∃ (C a dx da : Addr) (g : GramD) (l : KeptL) (S : Int × Int → List Pic) (M : Int) (r c : Int) (N : Nat),
  A = [.own (sO C a dx da g l), vl r, vl c] ∧ PySem.W.nsIn K mainGlobals "Sizes" = some (some (.ref C)) ∧ g.Made ∧ SOk S M ∧ KOk S g.names l ∧ r * c ≤ M ∧ l.length ≤ 900 ∧ 1 ≤ r ∧ r ≤ 6 ∧ 1 ≤ c ∧ c ≤ 6 ∧ (∀ a, 1 ≤ a → a < c → (look l (r, a)).isSome = true) ∧ (∀ a, 1 ≤ a → a < r → (look l (a, c)).isSome = true) ∧ (∀ a, 1 ≤ a → a < r → (look l (c, a)).isSome = true) ∧ (∀ a, 1 ≤ a → a < c → (look l (a, r)).isSome = true) ∧
  (∀ n co s, RuleD.cell n co s ∈ g.rules → r = 1 → c = 1 → [s] ∈ S (1, 1)) ∧
  (∀ k, k < N → (tPass ((st0L g.rules l r c).map (·.1)) g.rules (itT ((st0L g.rules l r c).map (·.1)) g.rules k (st0L g.rules l r c), false)).2 = true) ∧ (tPass ((st0L g.rules l r c).map (·.1)) g.rules (itT ((st0L g.rules l r c).map (·.1)) g.rules N (st0L g.rules l r c), false)).2 = false ∧
  P (.chg repUnit () [sO C a dx da g (fillL g.rules N l r c)])
theorem frozF {a : Addr} {lf : List FEnt} : Froz (ownF a lf) (toFD (stripE lf)) := fun {K F H v} => by
  have : toFD (stripE lf) = Dic.mk (lf.map fun p => (p.1, Dic.mk p.2.2)) := by
    unfold toFD stripE
    rw [List.map_map]
    rfl
  rw [this]
  exact frozDD (i := repPair) (a := a) (l := lf) (K := K) (F := F) (H := H) (v := v)
theorem FInv.begunZ {S : Int × Int → List Pic} {g : GramD} {l : KeptL} (hg : g.Made) {M : Int} (hS : SOk S M) (h : KOk S g.names l) {r c : Int} (hr : r ≤ 6) (hc : c ≤ 6) (hcell : ∀ n co s, RuleD.cell n co s ∈ g.rules → r = 1 → c = 1 → [s] ∈ S (1, 1)) : FInv g.names (S (r, c)) (begunL g.rules l r c) :=
  FInv.begun hS h hr hc _ FInv.nil (fun q hq => made_nmZ hg hq) hcell
section
variable {P : Program} {w : World} {K : PySem.W.Frag} {mg : Str → Option Value} {base : Heap}
theorem ok_Sizes_fill (T : Txt K mg) : HasM P w K mg base 14 "Sizes" "fill" ["self", "rows", "columns"] (sfillS K) := by
  refine HasM.ofI (k := 13) T.m_Sizes_fill sc_Sizes_fill (fun A Q R ⟨C, a, dx, da, g, l, S, M, r, c, N, e, _⟩ => by rw [e]; rfl) fun f cdv A outer s0 H E hr Γ Q R ⟨C, a, dx, da, g, l, S, M, r, c, N, e, hC, hg, hS, hK, hM, hl, r1, r6, c1, c6, hk1, hk2, hk3, hk4, hcell, hgo, hst, hq⟩ => ⟨sO C a dx da g l, ?_⟩
  subst e
  obtain ⟨C', kC, gC⟩ := T.o_Sizes
  obtain rfl := ns_one kC.ns hC
  have hcell2 : ∀ n co s, RuleD.cell n co s ∈ g.rules → c = 1 → r = 1 → [s] ∈ S (1, 1) := fun n co s h1 h2 h3 => hcell n co s h1 h3 h2
  have back : ∀ (ab : Addr) (bs : List BEnt), stB bs = st0L g.rules l r c → Tw.ST (cxOf (L2.CX P w) P w K mg base N_Sizes_fill "Sizes.fill" (defScope s_Sizes_fill) f cdv A outer s0 H E) ((defBody s_Sizes_fill).drop 2) [.own (sO C a dx da g l), vl r, vl c, .own (bO ab bs), .no, .no] (finI (sO C a dx da g l) Q R) := fun ab bs hb => by
    have hkeys : bs.map (·.1) = (st0L g.rules l r c).map (·.1) := by rw [← hb, stB_keys]
    have hI1 := FInv.begunZ hg hS hK r6 c6 hcell
    have hI2 := FInv.begunZ hg hS hK c6 r6 hcell2
    have hFA : FAll S g.names (st0L g.rules l r c) := fun z f hz => by
      have hm := look_mem hz
      unfold st0L at hm
      split at hm
      · rw [Prod.mk.inj (List.mem_singleton.mp hm) |>.1, Prod.mk.inj (List.mem_singleton.mp hm) |>.2]; exact hI1
      · rcases List.mem_cons.mp hm with h | h
        · rw [Prod.mk.inj h |>.1, Prod.mk.inj h |>.2]; exact hI1
        · rw [Prod.mk.inj (List.mem_singleton.mp h) |>.1, Prod.mk.inj (List.mem_singleton.mp h) |>.2]; exact hI2
    have hnd : ((st0L g.rules l r c).map (·.1)).Nodup := by
      unfold st0L
      split
      · simp
      · rename_i h
        simp only [List.map_cons, List.map_nil, List.nodup_cons, List.mem_singleton, Prod.mk.injEq, not_and, List.not_mem_nil, not_false_eq_true, List.nodup_nil, and_true]
        exact fun h1 _ => h h1
    have hz : ∀ z ∈ (st0L g.rules l r c).map (·.1), 1 ≤ z.1 ∧ z.1 ≤ 6 ∧ 1 ≤ z.2 ∧ z.2 ≤ 6 ∧ (z.2, z.1) ∈ (st0L g.rules l r c).map (·.1) := fun z hz => by
      unfold st0L at hz ⊢
      split at hz
      · rename_i h
        subst h
        rw [List.mem_singleton.mp hz, if_pos rfl]
        exact ⟨r1, r6, c1, c6, List.mem_singleton.mpr rfl⟩
      · rename_i h
        rw [if_neg h]
        rcases List.mem_cons.mp hz with h | h
        · rw [h]; exact ⟨r1, r6, c1, c6, List.mem_cons_of_mem _ (List.mem_singleton.mpr rfl)⟩
        · rw [List.mem_singleton.mp h]; exact ⟨c1, c6, r1, r6, List.mem_cons_self ..⟩
    have hlen : bs.length ≤ 2 := by
      have := congrArg List.length hkeys
      rw [List.length_map, List.length_map] at this
      rw [this]
      unfold st0L
      split <;> simp
    refine st_dropG (P := fun _ Γ' => ∃ bs', bs'.map bPt = bs.map bPt ∧ stB bs' = itT ((st0L g.rules l r c).map (·.1)) g.rules (N + 1) (st0L g.rules l r c) ∧ Γ' = [.own (sO C a dx da g l), vl r, vl c, .own (bO ab bs'), .no, .no]) (R := fun _ _ => False) (eg_meth2 0 3 (lr := repUnit) (m := "turned_on") (G := fun _ o o2 => o = sO C a dx da g l ∧ ∃ bs', bs'.map bPt = bs.map bPt ∧ stB bs' = itT ((st0L g.rules l r c).map (·.1)) g.rules (N + 1) (st0L g.rules l r c) ∧ o2 = bO ab bs') (by decide) T.o_Sizes (ok_Sizes_turned_on T) (hr.mono (by decide)) hC (by decide) (by decide) (eab_o 3 eab_nil) rfl rfl rfl (fun _ _ _ ⟨e1, _, _, _, e2⟩ => by rw [e1, e2]; exact ⟨rfl, rfl⟩) (fun _ o o2 ⟨e1, bs', e2, e3, e4⟩ => ⟨bs', e2, e3, by rw [e1, e4]; rfl⟩) fun P' R' h => ⟨C, a, dx, da, ab, g, l, bs, S, M, N, rfl, hC, hg, hS, (fun z hz => by
      rw [hkeys] at hz
      unfold st0L at hz
      split at hz
      · rw [List.mem_singleton.mp hz]; exact hM
      · rcases List.mem_cons.mp hz with h | h
        · rw [h]; exact hM
        · rw [List.mem_singleton.mp h, Int.mul_comm]; exact hM), by rw [hb]; exact hFA, by rw [hkeys]; exact hnd, hlen, by rw [hkeys]; exact hz, by rw [hkeys, hb]; exact hgo, by rw [hkeys, hb]; exact hst, fun bs' h1 h2 => h _ _ _ ⟨rfl, bs', h1, by rw [h2, hkeys, hb], rfl⟩⟩) (fun _ Γ' hG => ?_) (fun _ _ z => z.elim)
    obtain ⟨bs', h1, h2, rfl⟩ := hG
    have hlen' : bs'.length ≤ 2 := by
      have := congrArg List.length h1
      rw [List.length_map, List.length_map] at this
      omega
    refine st_freezeW 3 (i := (repDic : Rep FD)) (zs := bs'.map fun b => (b.1, toFD (stripE b.2.2))) (paired_map2 (f := bPt) (g := fun b => (b.1, toFD (stripE b.2.2))) fun b hb' => ⟨rfl, bOwn b, List.mem_map.mpr ⟨b, hb', rfl⟩, rfl, frozF⟩) ?_
    refine st_forItemsPut 3 0 4 5 (f1 := "grammar") (f2 := "kept") (i := repInst) (j := (repDic : Rep FD)) (x := g) (lk := l) (zs := bs'.map fun b => (b.1, toFD (stripE b.2.2))) hr (by rw [List.length_map]; exact lt_line (by omega)) ⟨Nat.le_of_ble_eq_true rfl, Nat.le_of_ble_eq_true rfl⟩ (by decide) kC.cl (T.a_Sizes_kept _ hC) (fun Γ' hs => st_nil ⟨_, hs, rfl, ?_⟩) rfl rfl (by decide) sc_Sizes_fill.nd (pg2 4 5 (pgn 4 sc_Sizes_fill.nd) (pgn 5 sc_Sizes_fill.nd))
    have : puts l (bs'.map fun b => (b.1, toFD (stripE b.2.2))) = fillL g.rules N l r c := by
      unfold fillL
      rw [← h2]
      unfold stB
      rw [List.map_map]
      rfl
    rw [this]
    exact hq
  refine st_bothNew 3 (key := ((r, c) : Int × Int)) (N := fun d oN Γ' => ∃ lf, oN = ownF d lf ∧ stripE lf = begunL g.rules l r c ∧ Γ' = [.own (sO C a dx da g l), vl r, vl c, .no, .no, .no]) hr (ev_pair (ev_var (x := r) 1) (ev_var (x := c) 2)) (eg_imp (eg_methNew 0 (m := "begun") (P := fun r' Γ' => ∃ d lf, stripE lf = begunL g.rules l r c ∧ r' = (.own fun o => o = ownF d lf) ∧ Γ' = [.own (sO C a dx da g l), vl r, vl c, .no, .no, .no]) (G := fun d o' oN => o' = sO C a dx da g l ∧ ∃ lf, stripE lf = begunL g.rules l r c ∧ oN = ownF d lf) T.o_Sizes (ok_Sizes_begun T) (hr.mono (by decide)) hC (by decide) (by decide) (ea_cons (x := r) (ev_var 1) (ea_cons (x := c) (ev_var 2) ea_nil)) rfl rfl (fun d o' oN ⟨h1, lf, _, h2⟩ => by rw [h1, h2]; exact ⟨rfl, rfl⟩) (fun d o' oN ⟨h1, lf, h3, h2⟩ => ⟨d, lf, h3, by rw [h2], by rw [h1]; rfl⟩) fun P' R' h => ⟨C, a, dx, da, g, l, S, M, r, c, rfl, hC, hg, hS, hK, hM, r1, r6, c1, c6, hk1, hk2, hcell, fun af lf hlf => h _ _ _ ⟨rfl, lf, hlf, rfl⟩⟩) fun r' Γ' ⟨d, lf, h1, h2, h3⟩ => ⟨d, ownF d lf, ⟨lf, rfl, h1, h3⟩, rfl, h2⟩) (fun d oN Γ' ⟨lf, _, _, h⟩ => by rw [h]; exact Nat.le_of_ble_eq_true rfl) (fun d oN Γ' ad hN => ?_) sc_Sizes_fill.nd
  obtain ⟨lf, rfl, hlf, rfl⟩ := hN
  by_cases hrc : r = c
  · subst hrc
    refine st_if (k := false) (et_eq (et_cmp o_ne (ev_var (x := r) 1) (ev_var (x := r) 2)) (by simp)) (fun h => nomatch h) (fun _ => st_nil ?_)
    refine back ad [((r, r), d, lf)] ?_
    unfold stB st0L
    rw [if_pos rfl]
    show [((r, r), stripE lf)] = _
    rw [hlf]
  · refine st_if (k := true) (et_eq (et_cmp o_ne (ev_var (x := r) 1) (ev_var (x := c) 2)) (by rw [decide_eq_false hrc]; rfl)) (fun _ => ?_) (fun h => nomatch h)
    refine st_bothPut 3 (key := ((c, r) : Int × Int)) (ad := ad) (l := [((r, c), Ptr.mk d)]) (os := [ownF d lf]) (N := fun d2 oN Γ' => ∃ lf2, oN = ownF d2 lf2 ∧ stripE lf2 = begunL g.rules l c r ∧ Γ' = [.own (sO C a dx da g l), vl r, vl c, .own (ownW (ownD (Int × Int) repPtr ad [((r, c), Ptr.mk d)]) [ownF d lf]), .no, .no]) hr (eg_imp (eg_methNew 0 (m := "begun") (P := fun r' Γ' => ∃ d2 lf2, stripE lf2 = begunL g.rules l c r ∧ r' = (.own fun o => o = ownF d2 lf2) ∧ Γ' = [.own (sO C a dx da g l), vl r, vl c, .own (ownW (ownD (Int × Int) repPtr ad [((r, c), Ptr.mk d)]) [ownF d lf]), .no, .no]) (G := fun d2 o' oN => o' = sO C a dx da g l ∧ ∃ lf2, stripE lf2 = begunL g.rules l c r ∧ oN = ownF d2 lf2) T.o_Sizes (ok_Sizes_begun T) (hr.mono (by decide)) hC (by decide) (by decide) (ea_cons (x := c) (ev_var 2) (ea_cons (x := r) (ev_var 1) ea_nil)) rfl rfl (fun d o' oN ⟨h1, lf, _, h2⟩ => by rw [h1, h2]; exact ⟨rfl, rfl⟩) (fun d o' oN ⟨h1, lf, h3, h2⟩ => ⟨d, lf, h3, by rw [h2], by rw [h1]; rfl⟩) fun P' R' h => ⟨C, a, dx, da, g, l, S, M, c, r, rfl, hC, hg, hS, hK, by rw [Int.mul_comm]; exact hM, c1, c6, r1, r6, hk3, hk4, hcell2, fun af lf hlf => h _ _ _ ⟨rfl, lf, hlf, rfl⟩⟩) fun r' Γ' ⟨d2, lf2, h1, h2, h3⟩ => ⟨d2, ownF d2 lf2, ⟨lf2, rfl, h1, h3⟩, rfl, h2⟩) (fun d oN Γ' ⟨_, _, _, h⟩ => by rw [h]; rfl) (fun d oN Γ' ⟨_, _, _, h⟩ => by rw [h]; exact ev_pair (ev_var (x := c) 2) (ev_var (x := r) 1)) (lt_line (by simp)) (fun d2 oN Γ' hN => ?_)
    obtain ⟨lf2, rfl, hlf2, rfl⟩ := hN
    have hput : put [((r, c), Ptr.mk d)] ((c, r) : Int × Int) (Ptr.mk d2) = [((r, c), Ptr.mk d), ((c, r), Ptr.mk d2)] := by
      unfold put
      rw [if_neg (by
        simp only [List.any_cons, List.any_nil, Bool.or_false, decide_eq_true_eq, Prod.mk.injEq, not_and]
        exact fun h _ => hrc h)]
      rfl
    rw [hput]
    refine st_nil (back ad [((r, c), d, lf), ((c, r), d2, lf2)] ?_)
    unfold stB st0L
    rw [if_neg hrc]
    show [((r, c), stripE lf), ((c, r), stripE lf2)] = _
    rw [hlf, hlf2]
end
local macro_rules | `(tactic| walk_at "le") => `(tactic| repeat (first | exact le_nil | refine le_cons ?_ | refine le_no ?_))
noncomputable def cellsZ (z : Int × Int) : Int := z.1 * z.2
noncomputable def withinA (lo hi : Int) : List (Int × Int) := (rng 1 lo.toNat).flatMap fun r => (rng r (hi + 1 - r).toNat).map fun c => (r, c)
noncomputable def withinL (lo hi : Int) : List (Int × Int) := (withinA lo hi).mergeSort (PySem.W.dataLe false fun z => PyData.int (cellsZ z))
noncomputable def cellsOfS : Tw.Spec := fun A P _ => ∃ (z : Int × Int), A = [vl z] ∧ 1 ≤ z.1 ∧ z.1 ≤ 6 ∧ 1 ≤ z.2 ∧ z.2 ≤ 6 ∧ P (rv (cellsZ z))
noncomputable def withinS : Tw.Spec := fun A P _ => ∃ (r c : Int), A = [vl r, vl c] ∧ 1 ≤ r ∧ r ≤ 6 ∧ 1 ≤ c ∧ c ≤ 6 ∧ P (rn (withinL (if c < r then c else r) (if r < c then c else r)))
section
variable {X : Cx} {Γ : List Slot} {pos p : Pos} {a b : Expr}
theorem ev_minZ {x y : Int} (hm : X.mg "min" = none) (ha : EV X Γ a x) (hb : EV X Γ b y) (hc : autoParam (X.calm = true) aRfl) (hg : autoParam (Gl X "min") aRfl)
    (hs : autoParam (starEach [a, b] X.env = (false, eval a X.env) :: starEach [b] X.env) aStar) (hs2 : autoParam (starEach [b] X.env = (false, eval b X.env) :: starEach [] X.env) aStar) (hpl : autoParam ((backTo pos (starEach [b] X.env)).any (·.1) = false) aPl) :
    EV X Γ (.Call (.Name "min" p) [a, b] [] pos) (if y < x then y else x) := fun B F H σ Q L q =>
  WE.of (pe_callB (call_min2 hc) hg hm boot_min (pa_cons peW (pa_cons peW pa_nil hs2) hs) (by decide) (by decide) hs hpl) (ha B F H σ _ L fun v F1 H1 e1 r1 => hb B F1 H1 σ _ (L.step e1) fun u F2 H2 e2 r2 => by
    obtain rfl : v = .int x := r1
    obtain rfl : u = .int y := r2
    exact ⟨x, y, rfl, q _ F2 H2 (e1.trans e2) rfl⟩)
end
theorem within_mem {lo hi : Int} {z : Int × Int} (h : z ∈ withinA lo hi) : 1 ≤ z.1 ∧ z.1 ≤ lo ∧ z.1 ≤ z.2 ∧ z.2 ≤ hi := by
  obtain ⟨r, hr, h⟩ := List.mem_flatMap.mp h
  obtain ⟨c, hc, rfl⟩ := List.mem_map.mp h
  obtain ⟨i, hi1, rfl⟩ := rng_mem hr
  obtain ⟨j, hj, rfl⟩ := rng_mem hc
  refine ⟨?_, ?_, ?_, ?_⟩ <;> simp only <;> omega
section
variable {P : Program} {w : World} {K : PySem.W.Frag} {mg : Str → Option Value} {base : Heap}
theorem ok_cells_of (T : Txt K mg) : Has P w K mg base 1 "cells_of" ["size"] cellsOfS := by
  refine Has.of (k := 0) T.f_cells_of sc_cells_of (fun A Q R ⟨z, e, _⟩ => by rw [e]; rfl) fun f cdv A outer s0 H E hr Γ Q R ⟨z, e, h1, h2, h3, h4, hq⟩ => ?_
  subst e
  exact st_retV (ev_bin (o_mul (.inl ⟨by omega, by omega⟩)) (ev_fst (x := z) (ev_var 0)) (ev_snd (x := z) (ev_var 0))) hq
theorem ok_sizes_within (T : Txt K mg) : Has P w K mg base 4 "sizes_within" ["rows", "columns"] withinS := by
  refine Has.of (k := 3) T.f_sizes_within sc_sizes_within (fun A Q R ⟨r, c, e, _⟩ => by rw [e]; rfl) fun f cdv A outer s0 H E hr Γ Q R ⟨r, c, e, r1, r6, c1, c6, hq⟩ => ?_
  subst e
  refine st_set 2 (x := if c < r then c else r) (ev_minZ T.b_min (ev_var 0) (ev_var 1)) ?_ sc_sizes_within.nd
  refine st_set 3 (x := if c > r then c else r) (ev_max T.b_max (ev_var (x := r) 0) (ev_var (x := c) 1)) ?_ sc_sizes_within.nd
  obtain ⟨lo, elo⟩ : ∃ lo, lo = (if c < r then c else r) := ⟨_, rfl⟩
  obtain ⟨hi, ehi⟩ : ∃ hi, hi = (if c > r then c else r) := ⟨_, rfl⟩
  have b1 : 1 ≤ lo ∧ lo ≤ 6 ∧ lo ≤ hi ∧ hi ≤ 6 := by
    rw [elo, ehi]
    split <;> split <;> omega
  rw [← elo, ← ehi]
  have hq : Q (rn (withinL lo hi)) := by rw [elo, ehi]; exact hq
  refine st_le (Γ' := [vl r, vl c, vl lo, vl hi, .no, .no, .no]) (by walk_at "le") ?_
  refine st_setN 4 (xs := ([] : List (Int × Int))) (en_nil (Int × Int)) (fun ad => ?_) sc_sizes_within.nd
  have hlen : ∀ x, 1 ≤ x → (rng x (hi + 1 - x).toNat).length ≤ 6 := fun x hx => by rw [rng_len]; omega
  have hfl : ∀ m, m ≤ 6 → (((rng 1 lo.toNat).take m).flatMap fun r => (rng r (hi + 1 - r).toNat).map fun c => (r, c)).length ≤ 36 := fun m hm => by
    have : ∀ l : List Int, (∀ x ∈ l, 1 ≤ x) → (l.flatMap fun r => (rng r (hi + 1 - r).toNat).map fun c => (r, c)).length ≤ 6 * l.length := fun l => by
      induction l with
      | nil => intro _; exact Nat.le_refl _
      | cons x l ih =>
        intro h
        rw [List.flatMap_cons, List.length_append, List.length_map, List.length_cons]
        have h1 := hlen x (h x (List.mem_cons_self ..))
        have h2 := ih fun y hy => h y (List.mem_cons_of_mem _ hy)
        omega
    have h1 := this ((rng 1 lo.toNat).take m) fun x hx => by
      obtain ⟨i, _, rfl⟩ := rng_mem (List.mem_of_mem_take hx)
      omega
    have h2 : ((rng 1 lo.toNat).take m).length ≤ m := List.length_take_le ..
    omega
  have el : (lo + 1 - 1).toNat = lo.toNat := by rw [show lo + 1 - 1 = lo by omega]
  refine st_for (xs := rng 1 (lo + 1 - 1).toNat) (fun m Γ' => Le Γ' [vl r, vl c, vl lo, vl hi, .lst repPair ad (((rng 1 lo.toNat).take m).flatMap fun r => (rng r (hi + 1 - r).toNat).map fun c => (r, c)), .no, .no]) (src_range2 (m := 1) (n := lo + 1) T.b_range ev_int (ev_bin o_add (ev_var 2) ev_int) (by omega)) (tg_name 5) (by walk_at "le") (fun m x Γ' hm le => ?_) (fun Γ' le => ?_) (pgn 5 sc_sizes_within.nd)
  · rw [el] at hm
    obtain ⟨hml, ex⟩ := rng_get hm
    have b2 := hlen x (by omega)
    have b3 := hfl m (by omega)
    refine st_le (Le.set le 5 _) ?_
    refine st_le (Γ' := [vl r, vl c, vl lo, vl hi, .lst repPair ad (((rng 1 lo.toNat).take m).flatMap fun r => (rng r (hi + 1 - r).toNat).map fun c => (r, c)), vl x, .no]) (by walk_at "le") ?_
    refine st_extend 4 (ad := ad) (xs := ((rng 1 lo.toNat).take m).flatMap fun r => (rng r (hi + 1 - r).toNat).map fun c => (r, c)) (ys := (rng x (hi + 1 - x).toNat).map fun c => (x, c)) (en_lc (α := Int) (β := Int × Int) (own := [("c", 6)]) (f := fun c => (x, c)) (src_range2 (m := x) (n := hi + 1) T.b_range (ev_var 5) (ev_bin o_add (ev_var 3) ev_int) (by omega)) (tg_name 6) (fun _ _ _ _ _ => pgn 6 sc_sizes_within.nd) (fun k hk _ _ _ _ _ => ev_pair (ev_var (x := x) 5) (ev_var (x := k) 6)) sc_sizes_within.nd (ok := bk_sizes_within (by decide +kernel)) (hz := sl_small (by omega))) (st_nil ?_) (sl_small (by rw [List.length_map]; omega))
    rw [List.take_add_one, hm, List.flatMap_append, Option.toList_some, List.flatMap_singleton]
    walk_at "le"
  · rw [rng_len, el, List.take_of_length_le (by rw [rng_len]; exact Nat.le_refl _)] at le
    refine st_le le ?_
    refine st_freeze 4 frozL ?_
    have hin : ∀ z ∈ withinA lo hi, 1 ≤ z.1 ∧ z.1 ≤ 6 ∧ 1 ≤ z.2 ∧ z.2 ≤ 6 := fun z hz => by
      have := within_mem hz
      omega
    exact st_retE (en_sortedK (xs := withinA lo hi) (kf := cellsZ) T.b_sorted (ev_var 4) (ok_cells_of T) (hr.mono (by decide)) (fun z hz P' R' h => by
      obtain ⟨h1, h2, h3, h4⟩ := hin z hz
      exact ⟨z, rfl, h1, h2, h3, h4, h⟩) (fun x hx y hy => by
        obtain ⟨a, _, rfl⟩ := List.mem_map.mp hx
        obtain ⟨b, _, rfl⟩ := List.mem_map.mp hy
        rfl) (.inr fun x hx => by
        obtain ⟨a, _, rfl⟩ := List.mem_map.mp hx
        exact ⟨(fun z => nomatch z), fun _ z => nomatch z⟩) (fun x hx => Nat.zero_le _)) hq
end
set_option genInjectivity true in
inductive Der (rs : List RuleD) : Pic → Tx → Int → Prop
  | cell {n : Tx} {c : Int} {s : Tx} (h : RuleD.cell n c s ∈ rs) : Der rs [s] n c
  | turn {n : Tx} {c : Int} {a : Tx} {t : Int} {p : Pic} {r c' : Nat} {k : Int} (h : RuleD.turn n c a t ∈ rs) (hp : Pk p r c') (h0 : 0 ≤ t) (h7 : t ≤ 7) (d : Der rs p a k) : Der rs (turned p t.toNat) n (c + k)
  | side {n : Tx} {c : Int} {a b : Tx} {p q : Pic} {r c1 c2 : Nat} {k m : Int} (h : RuleD.beside n c a b ∈ rs) (hp : Pk p r c1) (hq : Pk q r c2) (d1 : Der rs p a k) (d2 : Der rs q b m) : Der rs (putT true p q) n (c + k + m)
  | over {n : Tx} {c : Int} {a b : Tx} {p q : Pic} {r1 r2 c' : Nat} {k m : Int} (h : RuleD.above n c a b ∈ rs) (hp : Pk p r1 c') (hq : Pk q r2 c') (d1 : Der rs p a k) (d2 : Der rs q b m) : Der rs (putT false p q) n (c + k + m)
theorem Der.mono {rs rs' : List RuleD} (h : ∀ q ∈ rs, q ∈ rs') {p : Pic} {n : Tx} {c : Int} (d : Der rs p n c) : Der rs' p n c := by
  induction d with
  | cell h1 => exact .cell (h _ h1)
  | turn h1 hp h0 h7 _ ih => exact .turn (h _ h1) hp h0 h7 ih
  | side h1 hp hq _ _ i1 i2 => exact .side (h _ h1) hp hq i1 i2
  | over h1 hp hq _ _ i1 i2 => exact .over (h _ h1) hp hq i1 i2
theorem Pk.uniq {p : Pic} {r c r' c' : Nat} (h : Pk p r c) (h' : Pk p r' c') : r = r' ∧ c = c' := by
  obtain ⟨x, q, e, hx⟩ := h.hd
  exact ⟨h.len.symm.trans h'.len, hx.symm.trans (h'.row x (by rw [e]; exact List.mem_cons_self ..))⟩
theorem parts_put {s : Bool} {p q : Pic} {r c r' c' : Nat} (hp : Pk p r c) (hq : Pk q r' c') (hs : if s then r = r' else c = c') : partA s (putT s p q) (if s then c else r) = p ∧ partB s (putT s p q) (if s then c else r) = q := by
  cases s with
  | true =>
    have hs : r = r' := hs
    have h1 := hp.len
    have h2 := hq.len
    have key : ∀ (p q : Pic), (∀ x ∈ p, x.length = c) → p.length = q.length → (List.zipWith (· ++ ·) p q).map (List.take c) = p ∧ (List.zipWith (· ++ ·) p q).map (List.drop c) = q := by
      intro p
      induction p with
      | nil => intro q _ hl; cases q with | nil => exact ⟨rfl, rfl⟩ | cons _ _ => cases hl
      | cons x p ih =>
        intro q hx hl
        cases q with
        | nil => cases hl
        | cons y q =>
          have hxc := hx x (List.mem_cons_self ..)
          obtain ⟨i1, i2⟩ := ih q (fun z hz => hx z (List.mem_cons_of_mem _ hz)) (by simpa using hl)
          rw [List.zipWith_cons_cons, List.map_cons, List.map_cons, i1, i2, ← hxc, List.take_left, List.drop_left]
          exact ⟨rfl, rfl⟩
    exact key p q hp.row (by omega)
  | false =>
    have h1 := hp.len
    subst h1
    exact ⟨List.take_left .., List.drop_left ..⟩
local macro_rules | `(tactic| walk_at "le") => `(tactic| repeat (first | exact le_nil | refine le_cons ?_ | refine le_no ?_))
noncomputable def sumV {κ β : Type} (f : β → Nat) (l : List (κ × β)) : Nat := (l.map fun p => f p.2).sum
theorem sumV_put {κ β : Type} [DecidableEq κ] {f : β → Nat} {k : κ} {v : β} : ∀ {l : List (κ × β)}, (l.map (·.1)).Nodup → (∀ w, look l k = some w → sumV f (put l k v) + f w = sumV f l + f v) ∧ (look l k = none → sumV f (put l k v) = sumV f l + f v) := by
  intro l nd
  have app : ∀ a b : List (κ × β), sumV f (a ++ b) = sumV f a + sumV f b := fun a b => by
    unfold sumV
    rw [List.map_append, List.sum_append]
  refine ⟨fun w hw => ?_, fun hn => ?_⟩
  · have hany : (l.any fun p => decide (p.1 = k)) = true := List.any_eq_true.mpr ⟨(k, w), look_mem hw, decide_eq_true rfl⟩
    unfold put
    rw [if_pos hany]
    clear hany
    induction l with
    | nil => cases hw
    | cons x l ih =>
      rw [List.map_cons, List.nodup_cons] at nd
      have e : ∀ (y : κ × β) (m : List (κ × β)), sumV f (y :: m) = f y.2 + sumV f m := fun y m => by
        unfold sumV
        rw [List.map_cons, List.sum_cons]
      by_cases h : x.1 = k
      · rw [look_pos h] at hw
        cases hw
        rw [List.map_cons, if_pos h, e, e]
        have : (l.map fun p => if p.1 = k then (p.1, v) else p) = l := by
          rw [List.map_congr_left (g := id), List.map_id]
          intro y hy
          exact if_neg fun z => nd.1 (by rw [h, ← z]; exact List.mem_map.mpr ⟨y, hy, rfl⟩)
        rw [this]
        show f v + sumV f l + f x.2 = f x.2 + sumV f l + f v
        omega
      · rw [look_neg h] at hw
        rw [List.map_cons, if_neg h, e, e]
        have := ih nd.2 hw
        omega
  · have hany : ¬ (l.any fun p => decide (p.1 = k)) = true := by
      rw [List.any_eq_true]
      rintro ⟨p, hp, h⟩
      exact look_none.mp hn (by rw [← of_decide_eq_true h]; exact List.mem_map.mpr ⟨p, hp, rfl⟩)
    unfold put
    rw [if_neg hany, app]
    show _ + (f v + 0) = _
    omega
theorem sumV_putD {κ β : Type} [DecidableEq κ] {f : β → Nat} {d : β} (hd : f d = 0) {k : κ} {v : β} {l : List (κ × β)} (nd : (l.map (·.1)).Nodup) : sumV f (put l k v) + f ((look l k).getD d) = sumV f l + f v := by
  obtain ⟨h1, h2⟩ := sumV_put (f := f) (k := k) (v := v) nd
  cases h : look l k with
  | some w => exact h1 w h
  | none =>
    rw [h2 h]
    show _ + f d = _
    rw [hd]; rfl
noncomputable def smO (own : List (Tx × (Pic × Int))) : Nat := sumV (fun q : Pic × Int => q.2.toNat) own
noncomputable def cntF' (f : Fnd) : Nat := sumV List.length f
noncomputable def smF (f : Fnd) : Nat := sumV smO f
noncomputable def cntS' (st : SzSt) : Nat := sumV cntF' st
noncomputable def smS (st : SzSt) : Nat := sumV smF st
noncomputable def LessS (w st : SzSt) : Prop := cntS' st < cntS' w ∨ (cntS' w = cntS' st ∧ smS w < smS st)
noncomputable def ProgS (st : SzSt) (w : SzSt × Bool) : Prop := (w.2 = false ∧ cntS' w.1 = cntS' st ∧ smS w.1 = smS st) ∨ (w.2 = true ∧ LessS w.1 st)
theorem note_sums {names : List Tx} {S : List Pic} {f : Fnd} (h : FInv names S f) {n : Tx} {p : Pic} {k : Int} (hk : 0 ≤ k) : (noteB f n p k = false ∧ cntF' (noteL f n p k) = cntF' f ∧ smF (noteL f n p k) = smF f) ∨ (noteB f n p k = true ∧ (cntF' f < cntF' (noteL f n p k) ∨ (cntF' (noteL f n p k) = cntF' f ∧ smF (noteL f n p k) < smF f))) := by
  have c0 : ∀ v, cntF' (put f n v) + (notes f n).length = cntF' f + v.length := fun v => sumV_putD (f := List.length) (d := []) rfl h.nd
  have s0 : ∀ v, smF (put f n v) + smO (notes f n) = smF f + smO v := fun v => sumV_putD (f := smO) (d := []) rfl h.nd
  obtain ⟨nd, _⟩ := h.own n
  unfold noteL
  cases hb : noteB f n p k with
  | false =>
    have h1 := c0 (notes f n)
    have h2 := s0 (notes f n)
    refine .inl ⟨rfl, ?_, ?_⟩
    · rw [if_neg (by simp)]; omega
    · rw [if_neg (by simp)]; omega
  | true =>
    rw [if_pos rfl]
    have h1 := c0 (put (notes f n) (shw p) (p, k))
    have h2 := s0 (put (notes f n) (shw p) (p, k))
    obtain ⟨p1, p2⟩ := sumV_put (f := fun q : Pic × Int => q.2.toNat) (k := shw p) (v := (p, k)) nd
    obtain ⟨q1, q2⟩ := sumV_put (f := fun _ : Pic × Int => 1) (k := shw p) (v := (p, k)) nd
    have len : ∀ m : List (Tx × (Pic × Int)), sumV (fun _ : Pic × Int => 1) m = m.length := fun m => by
      unfold sumV
      induction m with
      | nil => rfl
      | cons x m ih =>
        rw [List.map_cons, List.sum_cons, ih, List.length_cons]
        show 1 + m.length = m.length + 1
        omega
    rw [len, len] at q1 q2
    refine .inr ⟨rfl, ?_⟩
    cases hl : look (notes f n) (shw p) with
    | none =>
      have : (put (notes f n) (shw p) (p, k)).length = (notes f n).length + 1 := q2 hl
      left
      omega
    | some w =>
      have hw : ¬ w.2 ≤ k := by
        unfold noteB at hb
        rw [hl] at hb
        simpa using hb
      have h3 := q1 w hl
      have h4 : smO (put (notes f n) (shw p) (p, k)) + w.2.toNat = smO (notes f n) + k.toNat := p1 w hl
      right
      omega
theorem ProgS.comp {st : SzSt} {w y : SzSt × Bool} (h : ProgS st w) (h2 : ProgS w.1 y) : ProgS st (y.1, w.2 || y.2) := by
  unfold ProgS LessS at *
  obtain ⟨w1, w2⟩ := w
  obtain ⟨y1, y2⟩ := y
  simp only at *
  rcases h with ⟨e1, e2, e3⟩ | ⟨e1, e2⟩
  · rcases h2 with ⟨f1, f2, f3⟩ | ⟨f1, f2⟩
    · exact .inl ⟨by rw [e1, f1]; rfl, by omega, by omega⟩
    · exact .inr ⟨by rw [f1, Bool.or_true], by omega⟩
  · rcases h2 with ⟨f1, f2, f3⟩ | ⟨f1, f2⟩
    · exact .inr ⟨by rw [e1, Bool.true_or], by omega⟩
    · exact .inr ⟨by rw [e1, Bool.true_or], by omega⟩
theorem ProgS.refl (st : SzSt) : ProgS st (st, false) := .inl ⟨rfl, rfl, rfl⟩
noncomputable def At (f : Fnd) (n : Tx) (p : Pic) (k : Int) : Prop := ∃ q : Pic × Int, look (notes f n) (shw p) = some q ∧ q.2 ≤ k
noncomputable def LeF (f g : Fnd) : Prop := ∀ n t q, look (notes f n) t = some q → ∃ q' : Pic × Int, look (notes g n) t = some q' ∧ q'.2 ≤ q.2
theorem LeF.refl (f : Fnd) : LeF f f := fun _ _ q h => ⟨q, h, Int.le_refl _⟩
theorem LeF.trans {f g h : Fnd} (h1 : LeF f g) (h2 : LeF g h) : LeF f h := fun n t q e => by
  obtain ⟨q1, e1, l1⟩ := h1 n t q e
  obtain ⟨q2, e2, l2⟩ := h2 n t q1 e1
  exact ⟨q2, e2, by omega⟩
theorem LeF.of_same {f g : Fnd} (h : ∀ n, notes g n = notes f n) : LeF f g := fun n t q e => ⟨q, by rw [h]; exact e, Int.le_refl _⟩
theorem At.le {f g : Fnd} (h : LeF f g) {n : Tx} {p : Pic} {k : Int} (a : At f n p k) : At g n p k := by
  obtain ⟨q, e, l⟩ := a
  obtain ⟨q', e', l'⟩ := h n _ q e
  exact ⟨q', e', by omega⟩
theorem At.up {f : Fnd} {n : Tx} {p : Pic} {k k' : Int} (a : At f n p k) (h : k ≤ k') : At f n p k' := by
  obtain ⟨q, e, l⟩ := a
  exact ⟨q, e, by omega⟩
theorem notes_noteL {f : Fnd} {n m : Tx} {p : Pic} {k : Int} : notes (noteL f n p k) m = if m = n then (if noteB f n p k = true then put (notes f n) (shw p) (p, k) else notes f n) else notes f m := by
  unfold noteL
  split
  · rw [notes_put]
  · rw [notes_put]
theorem noteL_le {f : Fnd} {n : Tx} {p : Pic} {k : Int} : LeF f (noteL f n p k) := fun m t q hq => by
  rw [notes_noteL]
  split
  · rename_i e
    subst e
    split
    · rename_i hb
      rw [look_put]
      split
      · rename_i e
        refine ⟨_, rfl, ?_⟩
        unfold noteB at hb
        rw [← e, hq] at hb
        have hb : (!decide (q.2 ≤ k)) = true := hb
        have : ¬ q.2 ≤ k := by simpa using hb
        show k ≤ q.2
        omega
      · exact ⟨q, hq, Int.le_refl _⟩
    · exact ⟨q, hq, Int.le_refl _⟩
  · exact ⟨q, hq, Int.le_refl _⟩
theorem noteB_at {f : Fnd} {n : Tx} {p : Pic} {k : Int} (hb : noteB f n p k = false) : At f n p k := by
  unfold noteB at hb
  cases hl : look (notes f n) (shw p) with
  | none => rw [hl] at hb; cases hb
  | some q =>
    rw [hl] at hb
    have hb : (!decide (q.2 ≤ k)) = false := hb
    exact ⟨q, hl, by simpa using hb⟩
theorem noteB_same {f : Fnd} {n : Tx} {p : Pic} {k : Int} (hb : noteB f n p k = false) (m : Tx) : notes (noteL f n p k) m = notes f m := by
  rw [notes_noteL, if_neg (show ¬ noteB f n p k = true by rw [hb]; simp)]
  split
  · rename_i e; rw [e]
  · rfl
theorem noteL_at {f : Fnd} {n : Tx} {p : Pic} {k : Int} : At (noteL f n p k) n p k := by
  cases hb : noteB f n p k with
  | true =>
    unfold At
    rw [notes_noteL, if_pos rfl, if_pos hb]
    exact ⟨(p, k), by rw [look_put, if_pos rfl], Int.le_refl _⟩
  | false => exact (noteB_at hb).le noteL_le
noncomputable def Snd (rs : List RuleD) (f : Fnd) : Prop := ∀ n, ∀ y ∈ notes f n, Der rs y.2.1 n y.2.2
theorem Snd.nil {rs : List RuleD} : Snd rs [] := fun _ _ h => (List.not_mem_nil h).elim
theorem Snd.note {rs : List RuleD} {f : Fnd} (h : Snd rs f) {n : Tx} {p : Pic} {k : Int} (d : Der rs p n k) : Snd rs (noteL f n p k) := fun m y hy => by
  rw [notes_noteL] at hy
  split at hy
  · rename_i e
    subst e
    split at hy
    · rcases put_mem hy with rfl | hy
      · exact d
      · exact h _ y hy
    · exact h _ y hy
  · exact h m y hy
theorem Snd.vals {rs : List RuleD} {f : Fnd} (h : Snd rs f) {n : Tx} {x : Pic × Int} (hx : x ∈ vals f n) : Der rs x.1 n x.2 := by
  obtain ⟨y, hy, rfl⟩ := List.mem_map.mp hx
  exact h n y hy
theorem der_pos {rs : List RuleD} (hg : ∀ q ∈ rs, q.good = true) {p : Pic} {n : Tx} {k : Int} (d : Der rs p n k) : 1 ≤ k := by
  have cost : ∀ {r : RuleD}, r.good = true → 1 ≤ r.cost := fun {r} h => by
    have key : ∀ {k : Int}, costOk k = true → 1 ≤ k := fun h => by
      unfold costOk at h
      simp only [Bool.and_eq_true, decide_eq_true_eq] at h
      omega
    cases r <;> simp only [RuleD.good, Bool.and_eq_true] at h
    · exact key h.2.1
    · exact key h.1.1
    · exact key h.1.1
    · exact key h.2.1.1
  induction d with
  | cell h => exact cost (hg _ h)
  | turn h _ _ _ _ ih =>
    have h1 : (1 : Int) ≤ _ := cost (hg _ h)
    simp only [RuleD.cost] at h1
    omega
  | side h _ _ _ _ i1 i2 =>
    have h1 : (1 : Int) ≤ _ := cost (hg _ h)
    simp only [RuleD.cost] at h1
    omega
  | over h _ _ _ _ i1 i2 =>
    have h1 : (1 : Int) ≤ _ := cost (hg _ h)
    simp only [RuleD.cost] at h1
    omega
theorem fold_q {A W : Type} {f : W → A → W} {Rel Fl : W → Prop} {Q : A → Prop} : ∀ (xs : List A), (∀ w x, x ∈ xs → Rel w → Rel (f w x) ∧ (Fl (f w x) → Fl w ∧ Q x)) → ∀ w, Rel w → Rel (xs.foldl f w) ∧ (Fl (xs.foldl f w) → Fl w ∧ ∀ x ∈ xs, Q x)
  | [], _, w, h => ⟨h, fun hf => ⟨hf, fun _ hx => (List.not_mem_nil hx).elim⟩⟩
  | x :: xs, hs, w, h => by
    obtain ⟨h1, h2⟩ := hs w x (List.mem_cons_self ..) h
    obtain ⟨h3, h4⟩ := fold_q xs (fun w y hy => hs w y (List.mem_cons_of_mem _ hy)) _ h1
    refine ⟨h3, fun hf => ?_⟩
    obtain ⟨h5, h6⟩ := h4 hf
    obtain ⟨h7, h8⟩ := h2 h5
    refine ⟨h7, fun y hy => ?_⟩
    rcases List.mem_cons.mp hy with rfl | hy
    · exact h8
    · exact h6 y hy
theorem fold_le {A : Type} {g : Fnd → A → Fnd} (hg : ∀ f x, LeF f (g f x)) : ∀ (xs : List A) (f : Fnd), LeF f (xs.foldl g f)
  | [], f => LeF.refl f
  | x :: xs, f => (hg f x).trans (fold_le hg xs _)
theorem fold_at {A : Type} {g : Fnd → A → Fnd} (hg : ∀ f x, LeF f (g f x)) {n : Tx} {p : Pic} {k : Int} : ∀ {xs : List A} {x : A}, x ∈ xs → (∀ f, At (g f x) n p k) → ∀ f, At (xs.foldl g f) n p k
  | y :: xs, x, hx, h, f => by
    rcases List.mem_cons.mp hx with rfl | hx
    · exact (h f).le (fold_le hg xs _)
    · exact fold_at hg hx h _
theorem fold_snd {A : Type} {rs : List RuleD} {g : Fnd → A → Fnd} : ∀ (xs : List A), (∀ f x, x ∈ xs → Snd rs f → Snd rs (g f x)) → ∀ f, Snd rs f → Snd rs (xs.foldl g f)
  | [], _, f, h => h
  | x :: xs, hg, f, h => fold_snd xs (fun f y hy => hg f y (List.mem_cons_of_mem _ hy)) _ (hg f x (List.mem_cons_self ..) h)
theorem putL_le {s : Bool} {n : Tx} {co : Int} {xs ys : List (Pic × Int)} (f : Fnd) : LeF f (putL s n co xs ys f) :=
  fold_le (fun f x => fold_le (fun f y => noteL_le) ys f) xs f
theorem putL_at {s : Bool} {n : Tx} {co : Int} {xs ys : List (Pic × Int)} {x y : Pic × Int} (hx : x ∈ xs) (hy : y ∈ ys) (f : Fnd) : At (putL s n co xs ys f) n (putT s x.1 y.1) (co + x.2 + y.2) :=
  fold_at (g := fun l x => ys.foldl (fun l y => noteL l n (putT s x.1 y.1) (co + x.2 + y.2)) l) (fun f x => fold_le (fun f y => noteL_le) ys f) hx (fun f => fold_at (g := fun l y => noteL l n (putT s x.1 y.1) (co + x.2 + y.2)) (fun f y => noteL_le) hy (fun f => noteL_at) f) f
theorem putL_snd {rs : List RuleD} {s : Bool} {n : Tx} {co : Int} {xs ys : List (Pic × Int)} (h : ∀ x ∈ xs, ∀ y ∈ ys, Der rs (putT s x.1 y.1) n (co + x.2 + y.2)) {f : Fnd} (hf : Snd rs f) : Snd rs (putL s n co xs ys f) :=
  fold_snd xs (fun f x hx hf => fold_snd ys (fun f y hy hf => hf.note (h x hx y hy)) f hf) f hf
theorem getS_put {st : SzSt} {z z' : Int × Int} {f : Fnd} : getS (put st z f) z' = if z' = z then f else getS st z' := by
  unfold getS
  rw [look_put]
  split <;> rfl
structure WInv (S : Int × Int → List Pic) (names : List Tx) (rs : List RuleD) (zs : List (Int × Int)) (st : SzSt) : Prop where
  all : FAll S names st
  nd : (st.map (·.1)).Nodup
  ky : ∀ z ∈ st.map (·.1), z ∈ zs
  snd : ∀ z, Snd rs (getS st z)
structure RelT (S : Int × Int → List Pic) (names : List Tx) (rs : List RuleD) (zs : List (Int × Int)) (st : SzSt) (w : SzSt × Bool) : Prop where
  inv : WInv S names rs zs w.1
  prog : ProgS st w
  le : ∀ z, LeF (getS st z) (getS w.1 z)
  same : w.2 = false → ∀ z n, notes (getS w.1 z) n = notes (getS st z) n
  ex : ∀ z, (look st z).isSome = true → (look w.1 z).isSome = true
theorem RelT.refl {S : Int × Int → List Pic} {names : List Tx} {rs : List RuleD} {zs : List (Int × Int)} {st : SzSt} (h : WInv S names rs zs st) : RelT S names rs zs st (st, false) :=
  ⟨h, ProgS.refl st, fun _ => LeF.refl _, fun _ _ _ => rfl, fun _ h => h⟩
theorem put_prog {S : Int × Int → List Pic} {names : List Tx} {st : SzSt} (hF : FAll S names st) (nd : (st.map (·.1)).Nodup) {z : Int × Int} {n : Tx} {p : Pic} {k : Int} (hk : 0 ≤ k) : ProgS st (put st z (noteL (getS st z) n p k), noteB (getS st z) n p k) := by
  have c1 : cntS' (put st z (noteL (getS st z) n p k)) + cntF' (getS st z) = cntS' st + cntF' (noteL (getS st z) n p k) := sumV_putD (f := cntF') (d := []) rfl nd
  have s1 : smS (put st z (noteL (getS st z) n p k)) + smF (getS st z) = smS st + smF (noteL (getS st z) n p k) := sumV_putD (f := smF) (d := []) rfl nd
  rcases note_sums (hF.get z) (n := n) (p := p) hk with ⟨h1, h2, h3⟩ | ⟨h1, h2⟩
  · exact .inl ⟨h1, by show cntS' (put st z _) = _; omega, by show smS (put st z _) = _; omega⟩
  · refine .inr ⟨h1, ?_⟩
    show cntS' st < cntS' (put st z _) ∨ (cntS' (put st z _) = cntS' st ∧ smS (put st z _) < smS st)
    omega
theorem tStep_rel {S : Int × Int → List Pic} {M : Int} (hS : SOk S M) {names : List Tx} {rs : List RuleD} (hg : ∀ q ∈ rs, q.good = true) {zs : List (Int × Int)} (hzs : ∀ z ∈ zs, (z.2, z.1) ∈ zs) {n a : Tx} {co t : Int} (hr : RuleD.turn n co a t ∈ rs) (hn : n ∈ names) {st : SzSt} {w : SzSt × Bool} (h : RelT S names rs zs st w) {z : Int × Int} (hz : z ∈ zs) {x : Pic × Int} (hx : x.1 ∈ S z) (d : Der rs x.1 a x.2) :
    RelT S names rs zs st (tStep n co t w x) ∧ ((tStep n co t w x).2 = false → w.2 = false ∧ At (getS st (szOf (turned x.1 t.toNat))) n (turned x.1 t.toNat) (co + x.2)) := by
  obtain ⟨t0, t7⟩ := good_turn (hg _ hr)
  obtain ⟨hpS, hpz⟩ := hS.turnZ t0 t7 hx
  obtain ⟨ry, cy, ky, _, _⟩ := hS.pk z.1 z.2 x.1 hx
  have d2 : Der rs (turned x.1 t.toNat) n (co + x.2) := Der.turn hr ky t0 t7 d
  have hpos := der_pos hg d2
  unfold tStep
  generalize turned x.1 t.toNat = p at *
  obtain ⟨w1, w2⟩ := w
  have hpin : szOf p ∈ zs := by
    rcases hpz with h | h
    · rw [h]; exact hz
    · rw [h]; exact hzs z hz
  have same : noteB (getS w1 (szOf p)) n p (co + x.2) = false → ∀ z m, notes (getS (put w1 (szOf p) (noteL (getS w1 (szOf p)) n p (co + x.2))) z) m = notes (getS w1 z) m := fun hb z m => by
    rw [getS_put]
    split
    · rename_i e
      rw [noteB_same hb, e]
    · rfl
  refine ⟨⟨⟨h.inv.all.put ((h.inv.all.get _).note hn hpS _), put_nodup h.inv.nd, fun y hy => ?_, fun y => ?_⟩, h.prog.comp (y := (put w1 (szOf p) (noteL (getS w1 (szOf p)) n p (co + x.2)), noteB (getS w1 (szOf p)) n p (co + x.2))) (put_prog h.inv.all h.inv.nd (by omega)), fun y => ?_, fun hb y m => ?_, fun y hy => ?_⟩, fun hb => ?_⟩
  · obtain ⟨u, hu, rfl⟩ := List.mem_map.mp hy
    rcases put_mem hu with rfl | hu
    · exact hpin
    · exact h.inv.ky _ (List.mem_map.mpr ⟨u, hu, rfl⟩)
  · rw [getS_put]
    split
    · exact (h.inv.snd _).note d2
    · exact h.inv.snd y
  · refine (h.le y).trans ?_
    rw [getS_put]
    split
    · rename_i e
      rw [e]; exact noteL_le
    · exact LeF.refl _
  · have hb : (w2 || noteB (getS w1 (szOf p)) n p (co + x.2)) = false := hb
    rw [Bool.or_eq_false_iff] at hb
    rw [same hb.2, h.same hb.1]
  · rw [look_put]
    split
    · rfl
    · exact h.ex y hy
  · have hb : (w2 || noteB (getS w1 (szOf p)) n p (co + x.2)) = false := hb
    rw [Bool.or_eq_false_iff] at hb
    refine ⟨hb.1, (noteB_at hb.2).le (LeF.of_same fun m => ?_)⟩
    exact (h.same hb.1 _ m).symm
noncomputable def ClosedT (rs : List RuleD) (zs : List (Int × Int)) (st st' : SzSt) : Prop := ∀ n co a t, RuleD.turn n co a t ∈ rs → ∀ z ∈ zs, ∀ x ∈ vals (getS st z) a, At (getS st' (szOf (turned x.1 t.toNat))) n (turned x.1 t.toNat) (co + x.2)
theorem tPass_rel {S : Int × Int → List Pic} {M : Int} (hS : SOk S M) {names : List Tx} {rs : List RuleD} (hg : ∀ q ∈ rs, q.name ∈ names ∧ q.good = true) {zs : List (Int × Int)} (hzs : ∀ z ∈ zs, (z.2, z.1) ∈ zs) {st : SzSt} (h : WInv S names rs zs st) :
    RelT S names rs zs st (tPass zs rs (st, false)) ∧ ((tPass zs rs (st, false)).2 = false → ClosedT rs zs st st) := by
  have found : ∀ n co a t, RuleD.turn n co a t ∈ rs → ∀ w z, z ∈ zs → RelT S names rs zs st w → RelT S names rs zs st (tFound n a co t w z) ∧ ((tFound n a co t w z).2 = false → w.2 = false ∧ ∀ x ∈ vals (getS st z) a, At (getS st (szOf (turned x.1 t.toNat))) n (turned x.1 t.toNat) (co + x.2)) := fun n co a t hr w z hz hw => by
    obtain ⟨h1, h2⟩ := fold_q (f := tStep n co t) (Rel := RelT S names rs zs st) (Fl := fun w => w.2 = false) (Q := fun x => At (getS st (szOf (turned x.1 t.toNat))) n (turned x.1 t.toNat) (co + x.2)) (vals (getS w.1 z) a) (fun w' x hx hw' => tStep_rel hS (fun q hq => (hg q hq).2) hzs hr (hg _ hr).1 hw' hz (vals_of (hw.inv.all.get z) hx) ((hw.inv.snd z).vals hx)) w hw
    refine ⟨h1, fun hf => ?_⟩
    obtain ⟨h3, h4⟩ := h2 hf
    refine ⟨h3, fun x hx => h4 x ?_⟩
    unfold vals at hx ⊢
    rw [hw.same h3]
    exact hx
  obtain ⟨h1, h2⟩ := fold_q (f := fun w q => tRule zs w q) (Rel := RelT S names rs zs st) (Fl := fun w => w.2 = false) (Q := fun q => ∀ n co a t, q = RuleD.turn n co a t → ∀ z ∈ zs, ∀ x ∈ vals (getS st z) a, At (getS st (szOf (turned x.1 t.toNat))) n (turned x.1 t.toNat) (co + x.2)) rs (fun w q hq hw => by
    cases q with
    | turn n co a t =>
      obtain ⟨h3, h4⟩ := fold_q (f := tFound n a co t) (Rel := RelT S names rs zs st) (Fl := fun w => w.2 = false) (Q := fun z => ∀ x ∈ vals (getS st z) a, At (getS st (szOf (turned x.1 t.toNat))) n (turned x.1 t.toNat) (co + x.2)) zs (fun w' z hz hw' => found n co a t hq w' z hz hw') w hw
      refine ⟨h3, fun hf => ?_⟩
      obtain ⟨h5, h6⟩ := h4 hf
      refine ⟨h5, fun n' co' a' t' e => ?_⟩
      cases e
      exact h6
    | cell n co s => exact ⟨hw, fun hf => ⟨hf, fun _ _ _ _ e => nomatch e⟩⟩
    | beside n co u v => exact ⟨hw, fun hf => ⟨hf, fun _ _ _ _ e => nomatch e⟩⟩
    | above n co u v => exact ⟨hw, fun hf => ⟨hf, fun _ _ _ _ e => nomatch e⟩⟩) (st, false) (RelT.refl h)
  exact ⟨h1, fun hf n co a t hr => (h2 hf).2 _ hr n co a t rfl⟩
theorem WInv.bound {S : Int × Int → List Pic} {M : Int} (hS : SOk S M) {names : List Tx} {rs : List RuleD} {zs : List (Int × Int)} (hM : ∀ z ∈ zs, z.1 * z.2 ≤ M) {st : SzSt} (h : WInv S names rs zs st) : cntS' st ≤ zs.length * (names.length * 1000) := by
  have sumLe : ∀ {κ β : Type} {f : β → Nat} {b : Nat} (l : List (κ × β)), (∀ x ∈ l, f x.2 ≤ b) → sumV f l ≤ l.length * b := fun {κ β f b} l => by
    induction l with
    | nil => intro _; exact Nat.zero_le _
    | cons x l ih =>
      intro hx
      unfold sumV at ih ⊢
      rw [List.map_cons, List.sum_cons, List.length_cons, Nat.succ_mul]
      have h1 := hx x (List.mem_cons_self ..)
      have h2 := ih fun y hy => hx y (List.mem_cons_of_mem _ hy)
      omega
  have one : ∀ x ∈ st, cntF' x.2 ≤ names.length * 1000 := fun x hx => by
    have hl := look_of_mem h.nd hx
    have hI := h.all x.1 x.2 hl
    have hfew : (S x.1).length ≤ 1000 := hS.few x.1.1 x.1.2 (hM _ (h.ky _ (List.mem_map.mpr ⟨x, hx, rfl⟩)))
    have h1 : cntF' x.2 ≤ x.2.length * 1000 := sumLe (f := List.length) _ fun y hy => by
      have h2 := hI.lenN y.1
      unfold notes at h2
      rw [look_of_mem hI.nd hy] at h2
      have h2 : y.2.length ≤ (S x.1).length := h2
      omega
    exact Nat.le_trans h1 (Nat.mul_le_mul_right _ hI.len)
  have h2 : cntS' st ≤ st.length * (names.length * 1000) := sumLe (f := cntF') _ one
  refine Nat.le_trans h2 (Nat.mul_le_mul_right _ ?_)
  have := nodup_leB h.nd h.ky
  rwa [List.length_map] at this
theorem itT_shift {zs : List (Int × Int)} {rs : List RuleD} {st : SzSt} : ∀ k, itT zs rs k (tPass zs rs (st, false)).1 = itT zs rs (k + 1) st
  | 0 => rfl
  | k + 1 => by
    show (tPass zs rs (itT zs rs k (tPass zs rs (st, false)).1, false)).1 = _
    rw [itT_shift k]
    rfl
theorem passes_end {S : Int × Int → List Pic} {M : Int} (hS : SOk S M) {names : List Tx} {rs : List RuleD} (hg : ∀ q ∈ rs, q.name ∈ names ∧ q.good = true) {zs : List (Int × Int)} (hzs : ∀ z ∈ zs, (z.2, z.1) ∈ zs) (hM : ∀ z ∈ zs, z.1 * z.2 ≤ M) : ∀ (b m : Nat) {st : SzSt}, WInv S names rs zs st → zs.length * (names.length * 1000) - cntS' st ≤ b → smS st ≤ m →
    ∃ N, (∀ k, k < N → (tPass zs rs (itT zs rs k st, false)).2 = true) ∧ (tPass zs rs (itT zs rs N st, false)).2 = false ∧ WInv S names rs zs (itT zs rs (N + 1) st) ∧ (∀ z, LeF (getS st z) (getS (itT zs rs (N + 1) st) z)) ∧ (∀ z, (look st z).isSome = true → (look (itT zs rs (N + 1) st) z).isSome = true) ∧ ClosedT rs zs (itT zs rs (N + 1) st) (itT zs rs (N + 1) st) := by
  intro b
  induction b with
  | zero => ?_
  | succ b ihb => ?_
  all_goals
    intro m
    induction m with
    | zero => ?_
    | succ m ihm => ?_
  all_goals
    intro st h hb hm
    obtain ⟨h1, h2⟩ := tPass_rel hS hg hzs h
    have hbd := h1.inv.bound hS hM
    cases hf : (tPass zs rs (st, false)).2 with
    | false =>
      refine ⟨0, fun k hk => (Nat.not_lt_zero k hk).elim, hf, h1.inv, h1.le, h1.ex, fun n co a t hr z hz x hx => ?_⟩
      have hs := h1.same hf
      have hx' : x ∈ vals (getS st z) a := by
        unfold vals at hx ⊢
        rw [← hs]
        exact hx
      exact (h2 hf n co a t hr z hz x hx').le (h1.le _)
    | true =>
      have hp := h1.prog
      unfold ProgS LessS at hp
      rw [hf] at hp
      have hp := hp.resolve_left fun z => by cases z.1
      have go : ∀ {b' m' : Nat}, (∃ N, (∀ k, k < N → (tPass zs rs (itT zs rs k (tPass zs rs (st, false)).1, false)).2 = true) ∧ (tPass zs rs (itT zs rs N (tPass zs rs (st, false)).1, false)).2 = false ∧ WInv S names rs zs (itT zs rs (N + 1) (tPass zs rs (st, false)).1) ∧ (∀ z, LeF (getS (tPass zs rs (st, false)).1 z) (getS (itT zs rs (N + 1) (tPass zs rs (st, false)).1) z)) ∧ (∀ z, (look (tPass zs rs (st, false)).1 z).isSome = true → (look (itT zs rs (N + 1) (tPass zs rs (st, false)).1) z).isSome = true) ∧ ClosedT rs zs (itT zs rs (N + 1) (tPass zs rs (st, false)).1) (itT zs rs (N + 1) (tPass zs rs (st, false)).1)) → ∃ N, (∀ k, k < N → (tPass zs rs (itT zs rs k st, false)).2 = true) ∧ (tPass zs rs (itT zs rs N st, false)).2 = false ∧ WInv S names rs zs (itT zs rs (N + 1) st) ∧ (∀ z, LeF (getS st z) (getS (itT zs rs (N + 1) st) z)) ∧ (∀ z, (look st z).isSome = true → (look (itT zs rs (N + 1) st) z).isSome = true) ∧ ClosedT rs zs (itT zs rs (N + 1) st) (itT zs rs (N + 1) st) := fun {b' m'} ⟨N, e1, e2, e3, e4, e6, e5⟩ => by
        rw [itT_shift] at e2 e3
        refine ⟨N + 1, fun k hk => ?_, e2, e3, fun z => ?_, fun z hz => ?_, (by rw [itT_shift] at e5; exact e5)⟩
        · cases k with
          | zero => exact hf
          | succ k =>
            have := e1 k (by omega)
            rwa [itT_shift] at this
        · have := e4 z
          rw [itT_shift] at this
          exact (h1.le z).trans this
        · have := e6 z (h1.ex z hz)
          rwa [itT_shift] at this
      first
        | (rcases hp.2 with hp | hp
           · exact go (b' := 0) (m' := 0) (ihb _ h1.inv (by omega) (Nat.le_refl _))
           · exact go (b' := 0) (m' := 0) (ihm h1.inv (by omega) (by omega)))
        | (rcases hp.2 with hp | hp
           · exact go (b' := 0) (m' := 0) (ihb _ h1.inv (by omega) (Nat.le_refl _))
           · exfalso; omega)
        | (rcases hp.2 with hp | hp
           · exfalso; omega
           · exact go (b' := 0) (m' := 0) (ihm h1.inv (by omega) (by omega)))
        | (exfalso; omega)
theorem put_pk {s : Bool} {p q : Pic} {r c r' c' : Nat} (hp : Pk p r c) (hq : Pk q r' c') (hs : if s then r = r' ∧ c + c' ≤ 6 else c = c' ∧ r + r' ≤ 6) : Pk (putT s p q) (if s then r else r + r') (if s then c + c' else c) := by
  have a1 := hp.r0
  have a2 := hp.c0
  have a3 := hp.r6
  have a4 := hp.c6
  cases s with
  | true =>
    obtain ⟨rfl, h6⟩ := hs
    refine ⟨?_, fun z hz => ?_, a1, by show 0 < c + c'; omega, a3, h6⟩
    · show (List.zipWith (· ++ ·) p q).length = r
      rw [List.length_zipWith, hp.len, hq.len, Nat.min_self]
    · obtain ⟨i, hi, ei⟩ := List.getElem_of_mem (show z ∈ List.zipWith (· ++ ·) p q from hz)
      rw [List.getElem_zipWith] at ei
      rw [← ei, List.length_append, hp.row _ (List.getElem_mem _), hq.row _ (List.getElem_mem _)]
      rfl
  | false =>
    obtain ⟨rfl, h6⟩ := (show c = c' ∧ r + r' ≤ 6 from hs)
    refine ⟨?_, fun z hz => ?_, by show 0 < r + r'; omega, a2, h6, a4⟩
    · show (p ++ q).length = r + r'
      rw [List.length_append, hp.len, hq.len]
    · rcases List.mem_append.mp (show z ∈ p ++ q from hz) with hz | hz
      · exact hp.row z hz
      · exact hq.row z hz
theorem sg_put {Φ : Nat → Prop} {s : Bool} {p q : Pic} (hp : ∀ y ∈ p, ∀ k ∈ y, Φ k) (hq : ∀ y ∈ q, ∀ k ∈ y, Φ k) : ∀ y ∈ putT s p q, ∀ k ∈ y, Φ k := fun y hy k hk => by
  cases s with
  | true =>
    obtain ⟨i, hi, ei⟩ := List.getElem_of_mem (show y ∈ List.zipWith (· ++ ·) p q from hy)
    rw [List.getElem_zipWith] at ei
    rw [← ei] at hk
    rcases List.mem_append.mp hk with hk | hk
    · exact hp _ (List.getElem_mem _) k hk
    · exact hq _ (List.getElem_mem _) k hk
  | false =>
    rcases List.mem_append.mp (show y ∈ p ++ q from hy) with hy | hy
    · exact hp y hy k hk
    · exact hq y hy k hk
noncomputable def tupsZ {α : Type} (l : List α) : Nat → List (List α)
  | 0 => [[]]
  | n + 1 => l.flatMap fun a => (tupsZ l n).map (a :: ·)
theorem tupsZ_mem {α : Type} {l : List α} : ∀ {n : Nat} {t : List α}, t ∈ tupsZ l n ↔ t.length = n ∧ ∀ a ∈ t, a ∈ l
  | 0, t => by
    unfold tupsZ
    rw [List.mem_singleton]
    constructor
    · rintro rfl; exact ⟨rfl, fun _ h => (List.not_mem_nil h).elim⟩
    · rintro ⟨h, _⟩; exact List.length_eq_zero_iff.mp h
  | n + 1, t => by
    unfold tupsZ
    rw [List.mem_flatMap]
    constructor
    · rintro ⟨a, ha, h⟩
      obtain ⟨u, hu, rfl⟩ := List.mem_map.mp h
      obtain ⟨h1, h2⟩ := tupsZ_mem.mp hu
      refine ⟨by rw [List.length_cons, h1], fun b hb => ?_⟩
      rcases List.mem_cons.mp hb with rfl | hb
      · exact ha
      · exact h2 b hb
    · rintro ⟨h1, h2⟩
      cases t with
      | nil => cases h1
      | cons a u =>
        refine ⟨a, h2 a (List.mem_cons_self ..), List.mem_map.mpr ⟨u, tupsZ_mem.mpr ⟨by rw [List.length_cons] at h1; omega, fun b hb => h2 b (List.mem_cons_of_mem _ hb)⟩, rfl⟩⟩
theorem tupsZ_len {α : Type} {l : List α} : ∀ n, (tupsZ l n).length = l.length ^ n
  | 0 => rfl
  | n + 1 => by
    unfold tupsZ
    have : ∀ m : List α, (m.flatMap fun a => (tupsZ l n).map (a :: ·)).length = m.length * (tupsZ l n).length := fun m => by
      induction m with
      | nil => exact (Nat.zero_mul _).symm
      | cons x m ih => rw [List.flatMap_cons, List.length_append, List.length_map, ih, List.length_cons, Nat.succ_mul]; omega
    rw [this, tupsZ_len n, Nat.pow_succ, Nat.mul_comm]
noncomputable def picsOf (x : Tx) (z : Int × Int) : List Pic := if 1 ≤ z.1 ∧ z.1 ≤ 6 ∧ 1 ≤ z.2 ∧ z.2 ≤ 6 then tupsZ (tupsZ x z.2.toNat) z.1.toNat else []
noncomputable abbrev InSg (x : Tx) (p : Pic) : Prop := ∀ y ∈ p, ∀ k ∈ y, k ∈ x
theorem picsOf_mem {x : Tx} {p : Pic} {r c : Nat} (hp : Pk p r c) : p ∈ picsOf x ((r : Int), (c : Int)) ↔ InSg x p := by
  unfold picsOf
  have h1 := hp.r0
  have h2 := hp.c0
  have h3 := hp.r6
  have h4 := hp.c6
  rw [if_pos (by refine ⟨?_, ?_, ?_, ?_⟩ <;> simp only <;> omega), tupsZ_mem]
  constructor
  · rintro ⟨_, h⟩ y hy
    exact (tupsZ_mem.mp (h y hy)).2
  · intro h
    refine ⟨hp.len, fun y hy => tupsZ_mem.mpr ⟨hp.row y hy, h y hy⟩⟩
theorem picsOf_pk {x : Tx} {p : Pic} {r c : Int} (h : p ∈ picsOf x (r, c)) : (∃ r' c' : Nat, Pk p r' c' ∧ (r' : Int) = r ∧ (c' : Int) = c) ∧ InSg x p := by
  unfold picsOf at h
  split at h
  · rename_i hz
    simp only at hz
    obtain ⟨h1, h2⟩ := tupsZ_mem.mp h
    exact ⟨⟨r.toNat, c.toNat, ⟨h1, fun y hy => (tupsZ_mem.mp (h2 y hy)).1, by omega, by omega, by omega, by omega⟩, by omega, by omega⟩, fun y hy => (tupsZ_mem.mp (h2 y hy)).2⟩
  · exact (List.not_mem_nil h).elim
theorem picsOf_ok {x : Tx} (hx : 1 ≤ x.length) {M : Nat} (hM : x.length ^ M ≤ 1000) : SOk (picsOf x) (M : Int) := by
  refine ⟨fun r c p h => (picsOf_pk h).1, fun r a b p q hp hq h6 => ?_, fun c a b p q hp hq h6 => ?_, fun r c p t h0 h7 hp => ?_, fun r c h => ?_⟩
  · obtain ⟨⟨r1, c1, k1, e1, e2⟩, s1⟩ := picsOf_pk hp
    obtain ⟨⟨r2, c2, k2, e3, e4⟩, s2⟩ := picsOf_pk hq
    have k := put_pk (s := true) k1 k2 ⟨by omega, by omega⟩
    have := (picsOf_mem k).mpr (sg_put s1 s2)
    rwa [if_pos rfl, if_pos rfl, e1, show ((c1 + c2 : Nat) : Int) = a + b by omega] at this
  · obtain ⟨⟨r1, c1, k1, e1, e2⟩, s1⟩ := picsOf_pk hp
    obtain ⟨⟨r2, c2, k2, e3, e4⟩, s2⟩ := picsOf_pk hq
    have k := put_pk (s := false) k1 k2 ⟨by omega, by omega⟩
    have := (picsOf_mem k).mpr (sg_put s1 s2)
    rwa [if_neg (by simp), if_neg (by simp), e2, show ((r1 + r2 : Nat) : Int) = a + b by omega] at this
  · obtain ⟨⟨r1, c1, k1, e1, e2⟩, s1⟩ := picsOf_pk hp
    have k := k1.turned t.toNat
    have := (picsOf_mem k).mpr (sg_turned k1 s1 t.toNat)
    subst e1 e2
    by_cases ht : t % 2 = 1
    · rw [if_pos ht]
      rwa [if_neg (by omega), if_neg (by omega)] at this
    · rw [if_neg ht]
      rwa [if_pos (by omega), if_pos (by omega)] at this
  · unfold picsOf
    split
    · rename_i hz
      simp only at hz
      rw [tupsZ_len, tupsZ_len, ← Nat.pow_mul]
      refine Nat.le_trans (Nat.pow_le_pow_right hx ?_) hM
      have : ((c.toNat * r.toNat : Nat) : Int) = c * r := by
        rw [Int.natCast_mul, Int.toNat_of_nonneg (by omega), Int.toNat_of_nonneg (by omega)]
      have h2 : c * r = r * c := Int.mul_comm ..
      exact Int.ofNat_le.mp (by rw [this, h2]; exact h)
    · exact Nat.zero_le _
noncomputable def Full (rs : List RuleD) (f : Fnd) (r c : Nat) : Prop := ∀ p n k, Pk p r c → Der rs p n k → At f n p k
structure KInv (x : Tx) (names : List Tx) (rs : List RuleD) (l : KeptL) : Prop where
  ok : KOk (picsOf x) names l
  snd : ∀ z D, look l z = some D → Snd rs D.l'
  full : ∀ (r c : Nat) D, look l ((r : Int), (c : Int)) = some D → Full rs D.l' r c
structure RSok (x : Tx) (names : List Tx) (rs : List RuleD) : Prop where
  good : ∀ q ∈ rs, q.name ∈ names ∧ q.good = true
  cell : ∀ n co s, RuleD.cell n co s ∈ rs → InSg x [s]
  ns : ∀ k ∈ x, k ≠ 47
theorem RSok.g2 {x : Tx} {names : List Tx} {rs : List RuleD} (h : RSok x names rs) : ∀ q ∈ rs, q.good = true := fun q hq => (h.good q hq).2
theorem cell_pk {x : Tx} {names : List Tx} {rs : List RuleD} (h : RSok x names rs) {n : Tx} {co : Int} {s : Tx} (hm : RuleD.cell n co s ∈ rs) : Pk [s] 1 1 := by
  have h1 := h.g2 _ hm
  simp only [RuleD.good, Bool.and_eq_true] at h1
  have h1 := h1.1
  unfold signOk at h1
  simp only [Bool.and_eq_true, decide_eq_true_eq] at h1
  exact ⟨rfl, fun y hy => by rw [List.mem_singleton.mp hy]; exact h1.1, by omega, by omega, by omega, by omega⟩
theorem der_sg {x : Tx} {names : List Tx} {rs : List RuleD} (h : RSok x names rs) {p : Pic} {n : Tx} {k : Int} (d : Der rs p n k) : InSg x p := by
  induction d with
  | cell hm => exact h.cell _ _ _ hm
  | turn _ hp _ _ _ ih => exact sg_turned hp ih _
  | side _ _ _ _ _ i1 i2 => exact sg_put i1 i2
  | over _ _ _ _ _ i1 i2 => exact sg_put i1 i2
theorem InSg.ns {x : Tx} {names : List Tx} {rs : List RuleD} (h : RSok x names rs) {p : Pic} (hp : InSg x p) : NoSlash p := fun y hy k hk => h.ns k (hp y hy k hk)
theorem At.mem {x : Tx} {names : List Tx} {rs : List RuleD} (h : RSok x names rs) {r c : Nat} {f : Fnd} (hf : FInv names (picsOf x ((r : Int), (c : Int))) f) {n : Tx} {p : Pic} {k : Int} (hp : Pk p r c) (hs : InSg x p) (a : At f n p k) : ∃ v, v ≤ k ∧ (p, v) ∈ vals f n := by
  obtain ⟨q, e, l⟩ := a
  have hm := look_mem e
  obtain ⟨h1, h2⟩ := (hf.own n).2 _ hm
  obtain ⟨⟨r', c', hk, e1, e2⟩, hs2⟩ := picsOf_pk h1
  have : p = q.1 := shw_inj hp hk (hs.ns h) (hs2.ns h) h2
  exact ⟨q.2, l, List.mem_map.mpr ⟨_, hm, by rw [this]⟩⟩
theorem KInv.nil {x : Tx} {names : List Tx} {rs : List RuleD} : KInv x names rs [] := ⟨(fun z D h => nomatch h), (fun z D h => nomatch h), fun r c D h => nomatch h⟩
theorem KInv.vals {x : Tx} {names : List Tx} {rs : List RuleD} {l : KeptL} (h : KInv x names rs l) {z : Int × Int} {n : Tx} {y : Pic × Int} (hy : y ∈ valsK l z n) : (∃ r c : Nat, Pk y.1 r c ∧ (r : Int) = z.1 ∧ (c : Int) = z.2) ∧ Der rs y.1 n y.2 := by
  refine ⟨(picsOf_pk (r := z.1) (c := z.2) (vals_in h.ok hy)).1, ?_⟩
  unfold valsK at hy
  split at hy
  · rename_i D hD
    exact (h.snd z D hD).vals hy
  · exact (List.not_mem_nil hy).elim
theorem begunR_le {l : KeptL} {r c : Int} (f : Fnd) (q : RuleD) : LeF f (begunR l r c f q) := by
  cases q with
  | cell n co s =>
    show LeF f (if r = 1 ∧ c = 1 then noteL f n [s] co else f)
    split
    · exact noteL_le
    · exact LeF.refl f
  | beside n co u v => exact fold_le (fun f a => putL_le f) _ f
  | above n co u v => exact fold_le (fun f a => putL_le f) _ f
  | turn n co a t => exact LeF.refl f
theorem begun_snd {x : Tx} {names : List Tx} {rs : List RuleD} {l : KeptL} (h : KInv x names rs l) {r c : Int} : Snd rs (begunL rs l r c) := by
  refine fold_snd rs (fun f q hq hf => ?_) [] Snd.nil
  cases q with
  | cell n co s =>
    show Snd rs (if r = 1 ∧ c = 1 then noteL f n [s] co else f)
    split
    · exact hf.note (.cell hq)
    · exact hf
  | beside n co u v =>
    refine fold_snd _ (fun f a _ hf => putL_snd (fun y hy z hz => ?_) hf) f hf
    obtain ⟨⟨r1, c1, k1, e1, e2⟩, d1⟩ := h.vals hy
    obtain ⟨⟨r2, c2, k2, e3, e4⟩, d2⟩ := h.vals hz
    obtain rfl : r1 = r2 := by simp only at e1 e3; omega
    exact .side hq k1 k2 d1 d2
  | above n co u v =>
    refine fold_snd _ (fun f a _ hf => putL_snd (fun y hy z hz => ?_) hf) f hf
    obtain ⟨⟨r1, c1, k1, e1, e2⟩, d1⟩ := h.vals hy
    obtain ⟨⟨r2, c2, k2, e3, e4⟩, d2⟩ := h.vals hz
    obtain rfl : c1 = c2 := by simp only at e2 e4; omega
    exact .over hq k1 k2 d1 d2
  | turn n co a t => exact hf
theorem begun_cell {rs : List RuleD} {l : KeptL} {n : Tx} {co : Int} {s : Tx} (h : RuleD.cell n co s ∈ rs) : At (begunL rs l 1 1) n [s] co :=
  fold_at (g := fun f q => begunR l 1 1 f q) begunR_le h (fun f => by
    show At (if (1 : Int) = 1 ∧ (1 : Int) = 1 then noteL f n [s] co else f) n [s] co
    rw [if_pos ⟨rfl, rfl⟩]
    exact noteL_at) []
theorem in_rng {lo : Int} {n : Nat} {a : Int} (h1 : lo ≤ a) (h2 : a < lo + n) : a ∈ rng lo n := by
  unfold rng
  exact List.mem_map.mpr ⟨(a - lo).toNat, List.mem_range.mpr (by omega), by omega⟩
theorem begun_side {rs : List RuleD} {l : KeptL} {r c a : Int} {n : Tx} {co : Int} {u v : Tx} (h : RuleD.beside n co u v ∈ rs) (h1 : 1 ≤ a) (h2 : a < c) {y z : Pic × Int} (hy : y ∈ valsK l (r, a) u) (hz : z ∈ valsK l (r, c - a) v) : At (begunL rs l r c) n (putT true y.1 z.1) (co + y.2 + z.2) :=
  fold_at (g := fun f q => begunR l r c f q) begunR_le h (fun f => fold_at (g := fun f a => putL true n co (valsK l (r, a) u) (valsK l (r, c - a) v) f) (fun f a => putL_le f) (in_rng h1 (by omega)) (fun f => putL_at hy hz f) f) []
theorem begun_over {rs : List RuleD} {l : KeptL} {r c a : Int} {n : Tx} {co : Int} {u v : Tx} (h : RuleD.above n co u v ∈ rs) (h1 : 1 ≤ a) (h2 : a < r) {y z : Pic × Int} (hy : y ∈ valsK l (a, c) u) (hz : z ∈ valsK l (r - a, c) v) : At (begunL rs l r c) n (putT false y.1 z.1) (co + y.2 + z.2) :=
  fold_at (g := fun f q => begunR l r c f q) begunR_le h (fun f => fold_at (g := fun f a => putL false n co (valsK l (a, c) u) (valsK l (r - a, c) v) f) (fun f a => putL_le f) (in_rng h1 (by omega)) (fun f => putL_at hy hz f) f) []
theorem KInv.find {x : Tx} {names : List Tx} {rs : List RuleD} (hr : RSok x names rs) {l : KeptL} (h : KInv x names rs l) {r c : Nat} (hl : (look l ((r : Int), (c : Int))).isSome = true) {p : Pic} {n : Tx} {k : Int} (hp : Pk p r c) (d : Der rs p n k) : ∃ v, v ≤ k ∧ (p, v) ∈ valsK l ((r : Int), (c : Int)) n := by
  obtain ⟨D, hD⟩ := Option.isSome_iff_exists.mp hl
  obtain ⟨v, hv, hm⟩ := (h.full r c D hD p n k hp d).mem hr (h.ok _ D hD) hp (der_sg hr d)
  exact ⟨v, hv, by rw [valsK_some hD]; exact hm⟩
theorem put_size {s : Bool} {p q : Pic} {r1 c1 r2 c2 r c : Nat} (hp : Pk p r1 c1) (hq : Pk q r2 c2) (hs : if s then r1 = r2 else c1 = c2) (h : Pk (putT s p q) r c) : r = (if s then r1 else r1 + r2) ∧ c = (if s then c1 + c2 else c1) := by
  cases s with
  | true =>
    have hs : r1 = r2 := hs
    subst hs
    have e : r = r1 := by
      rw [← h.len]
      show (List.zipWith (· ++ ·) p q).length = r1
      rw [List.length_zipWith, hp.len, hq.len, Nat.min_self]
    refine ⟨e, ?_⟩
    obtain ⟨y, p', rfl, hy⟩ := hp.hd
    obtain ⟨z, q', rfl, hz⟩ := hq.hd
    have := h.row (y ++ z) (List.mem_cons_self ..)
    rw [List.length_append] at this
    show c = c1 + c2
    omega
  | false =>
    have hs : c1 = c2 := hs
    subst hs
    refine ⟨?_, ?_⟩
    · rw [← h.len]
      show (p ++ q).length = r1 + r2
      rw [List.length_append, hp.len, hq.len]
    · obtain ⟨y, p', rfl, hy⟩ := hp.hd
      have := h.row y (List.mem_cons_self ..)
      show c = c1
      omega
theorem fill_full {x : Tx} {names : List Tx} {rs : List RuleD} (hr : RSok x names rs) {l : KeptL} (h : KInv x names rs l) {zs : List (Int × Int)} (hzs : ∀ z ∈ zs, (z.2, z.1) ∈ zs) (hin : ∀ z ∈ zs, (∀ a, 1 ≤ a → a < z.2 → (look l (z.1, a)).isSome = true) ∧ (∀ a, 1 ≤ a → a < z.1 → (look l (a, z.2)).isSome = true)) {st : SzSt} (hw : WInv (picsOf x) names rs zs st)
    (hle : ∀ z ∈ zs, LeF (begunL rs l z.1 z.2) (getS st z)) (hc : ClosedT rs zs st st) {p : Pic} {n : Tx} {k : Int} (d : Der rs p n k) : ∀ {r c : Nat}, Pk p r c → ((r : Int), (c : Int)) ∈ zs → At (getS st ((r : Int), (c : Int))) n p k := by
  induction d with
  | cell hm =>
    intro r c hp hz
    obtain ⟨e1, e2⟩ := hp.uniq (cell_pk hr hm)
    subst e1 e2
    exact (begun_cell hm).le (hle _ hz)
  | turn hm hq h0 h7 d ih =>
    rename_i n co a t q rq cq k
    intro r c hp hz
    have hk := hq.turned t.toNat
    obtain ⟨e1, e2⟩ := hp.uniq hk
    have hz2 : ((rq : Int), (cq : Int)) ∈ zs := by
      by_cases ht : t.toNat % 2 = 0
      · rw [if_pos ht] at e1 e2
        rw [e1, e2] at hz; exact hz
      · rw [if_neg ht] at e1 e2
        rw [e1, e2] at hz
        exact hzs _ hz
    obtain ⟨v, hv, hmem⟩ := (ih hq hz2).mem hr (hw.all.get _) hq (der_sg hr d)
    have := hc _ _ _ _ hm _ hz2 _ hmem
    rw [szOf_pk hp] at this
    exact this.up (by simp only; omega)
  | side hm hp1 hp2 d1 d2 i1 i2 =>
    rename_i n0 co u v p1 p2 r0 c1 c2 k1 k2
    intro r c hp hz
    obtain ⟨e1, e2⟩ := put_size (s := true) hp1 hp2 rfl hp
    rw [if_pos rfl] at e1 e2
    have a1 := hp1.c0
    have a2 := hp2.c0
    have hI := hin _ hz
    simp only at hI
    obtain ⟨v1, h1, m1⟩ := h.find hr (by rw [← e1]; exact hI.1 _ (by omega) (by omega)) hp1 d1
    obtain ⟨v2, h2, m2⟩ := h.find hr (by rw [← e1]; exact hI.1 _ (by omega) (by omega)) hp2 d2
    rw [← e1] at m1 m2
    have := begun_side (c := (c : Int)) hm (by omega) (by omega) m1 (by rw [show (c : Int) - (c1 : Int) = (c2 : Int) by omega]; exact m2)
    exact (this.le (hle _ hz)).up (by simp only; omega)
  | over hm hp1 hp2 d1 d2 i1 i2 =>
    rename_i n0 co u v p1 p2 r1 r2 c0 k1 k2
    intro r c hp hz
    obtain ⟨e1, e2⟩ := put_size (s := false) hp1 hp2 rfl hp
    rw [if_neg (by simp)] at e1 e2
    have a1 := hp1.r0
    have a2 := hp2.r0
    have hI := hin _ hz
    simp only at hI
    obtain ⟨v1, h1, m1⟩ := h.find hr (by rw [← e2]; exact hI.2 _ (by omega) (by omega)) hp1 d1
    obtain ⟨v2, h2, m2⟩ := h.find hr (by rw [← e2]; exact hI.2 _ (by omega) (by omega)) hp2 d2
    rw [← e2] at m1 m2
    have := begun_over (r := (r : Int)) hm (by omega) (by omega) m1 (by rw [show (r : Int) - (r1 : Int) = (r2 : Int) by omega]; exact m2)
    exact (this.le (hle _ hz)).up (by simp only; omega)
theorem look_puts {κ β : Type} [DecidableEq κ] : ∀ {xs l : List (κ × β)}, (xs.map (·.1)).Nodup → ∀ z, look (puts l xs) z = (match look xs z with | some v => some v | none => look l z)
  | [], l, _, z => rfl
  | x :: xs, l, nd, z => by
    rw [List.map_cons, List.nodup_cons] at nd
    show look (puts (put l x.1 x.2) xs) z = _
    rw [look_puts nd.2]
    by_cases h : x.1 = z
    · rw [look_pos h, look_none.mpr (by rw [← h]; exact nd.1)]
      show look (put l x.1 x.2) z = some x.2
      rw [look_put, if_pos h.symm]
    · rw [look_neg h]
      cases look xs z with
      | some v => rfl
      | none =>
        show look (put l x.1 x.2) z = look l z
        rw [look_put, if_neg fun e => h e.symm]
theorem look_mapV {κ β γ : Type} [DecidableEq κ] {f : β → γ} (z : κ) : ∀ l : List (κ × β), look (l.map fun w => (w.1, f w.2)) z = (look l z).map f
  | [] => rfl
  | x :: l => by
    by_cases h : x.1 = z
    · rw [List.map_cons, look_pos h, look_pos (p := (x.1, f x.2)) h]; rfl
    · rw [List.map_cons, look_neg h, look_neg (p := (x.1, f x.2)) h, look_mapV z l]
theorem st0_keys (rs : List RuleD) (l : KeptL) (r c : Int) : (st0L rs l r c).map (·.1) = if r = c then [(r, c)] else [(r, c), (c, r)] := by
  unfold st0L
  split <;> rfl
theorem st0_look {rs : List RuleD} {l : KeptL} {r c : Int} {z : Int × Int} (h : z ∈ (st0L rs l r c).map (·.1)) : look (st0L rs l r c) z = some (begunL rs l z.1 z.2) ∧ (z = (r, c) ∨ z = (c, r)) := by
  rw [st0_keys] at h
  unfold st0L
  split at h
  · rename_i e
    rw [if_pos e]
    rw [List.mem_singleton.mp h]
    exact ⟨look_pos rfl, .inl rfl⟩
  · rename_i e
    rw [if_neg e]
    rcases List.mem_cons.mp h with h | h
    · rw [h]
      exact ⟨look_pos rfl, .inl rfl⟩
    · rw [List.mem_singleton.mp h]
      refine ⟨?_, .inr rfl⟩
      rw [look_neg (fun q => e (Prod.mk.inj q).1)]
      exact look_pos rfl
theorem fill_next {x : Tx} (hx : 1 ≤ x.length) {M : Nat} (hM : x.length ^ M ≤ 1000) {g : GramD} (hg : g.Made) (hr : RSok x g.names g.rules) {l : KeptL} (h : KInv x g.names g.rules l) {r c : Int} (r1 : 1 ≤ r) (r6 : r ≤ 6) (c1 : 1 ≤ c) (c6 : c ≤ 6) (hrc : r * c ≤ (M : Int))
    (hk1 : ∀ a, 1 ≤ a → a < c → (look l (r, a)).isSome = true) (hk2 : ∀ a, 1 ≤ a → a < r → (look l (a, c)).isSome = true) (hk3 : ∀ a, 1 ≤ a → a < r → (look l (c, a)).isSome = true) (hk4 : ∀ a, 1 ≤ a → a < c → (look l (a, r)).isSome = true) :
    ∃ N, (∀ k, k < N → (tPass ((st0L g.rules l r c).map (·.1)) g.rules (itT ((st0L g.rules l r c).map (·.1)) g.rules k (st0L g.rules l r c), false)).2 = true) ∧ (tPass ((st0L g.rules l r c).map (·.1)) g.rules (itT ((st0L g.rules l r c).map (·.1)) g.rules N (st0L g.rules l r c), false)).2 = false ∧
      KInv x g.names g.rules (fillL g.rules N l r c) ∧ (∀ z, (look (fillL g.rules N l r c) z).isSome = true ↔ ((look l z).isSome = true ∨ z = (r, c) ∨ z = (c, r))) ∧ (fillL g.rules N l r c).length ≤ l.length + 2 := by
  have hS := picsOf_ok hx hM
  have hcell : ∀ n co s, RuleD.cell n co s ∈ g.rules → [s] ∈ picsOf x (1, 1) := fun n co s hm => (picsOf_mem (cell_pk hr hm)).mpr (hr.cell n co s hm)
  obtain ⟨zs, ezs⟩ : ∃ zs, zs = (st0L g.rules l r c).map (·.1) := ⟨_, rfl⟩
  have hmem : ∀ z, z ∈ zs ↔ (z = (r, c) ∨ z = (c, r)) := fun z => by
    rw [ezs, st0_keys]
    split
    · rename_i e
      subst e
      rw [List.mem_singleton]
      exact ⟨.inl, fun q => q.elim id id⟩
    · rw [List.mem_cons, List.mem_singleton]
  have hzs : ∀ z ∈ zs, (z.2, z.1) ∈ zs := fun z hz => by
    rw [hmem] at hz ⊢
    rcases hz with e | e
    · rw [e]; exact .inr rfl
    · rw [e]; exact .inl rfl
  have hMz : ∀ z ∈ zs, z.1 * z.2 ≤ (M : Int) := fun z hz => by
    rcases (hmem z).mp hz with e | e
    · rw [e]; exact hrc
    · rw [e, Int.mul_comm]; exact hrc
  have hnd : zs.Nodup := by
    rw [ezs, st0_keys]
    split
    · simp
    · rename_i e
      simp only [List.nodup_cons, List.mem_singleton, Prod.mk.injEq, not_and, List.not_mem_nil, not_false_eq_true, List.nodup_nil, and_true]
      exact fun q _ => e q
  have hw : WInv (picsOf x) g.names g.rules zs (st0L g.rules l r c) := by
    refine ⟨fun z f hz => ?_, by rw [← ezs]; exact hnd, fun z hz => by rw [ezs]; exact hz, fun z => ?_⟩
    · have hm : z ∈ (st0L g.rules l r c).map (·.1) := List.mem_map.mpr ⟨_, look_mem hz, rfl⟩
      obtain ⟨e, ez⟩ := st0_look hm
      rw [hz] at e
      obtain rfl := Option.some.inj e
      rcases ez with rfl | rfl
      · exact FInv.begunZ hg hS h.ok r6 c6 fun n co s hm e1 e2 => hcell n co s hm
      · exact FInv.begunZ hg hS h.ok c6 r6 fun n co s hm e1 e2 => hcell n co s hm
    · unfold getS
      cases hl : look (st0L g.rules l r c) z with
      | none => exact Snd.nil
      | some f =>
        have hm : z ∈ (st0L g.rules l r c).map (·.1) := List.mem_map.mpr ⟨_, look_mem hl, rfl⟩
        obtain ⟨e, ez⟩ := st0_look hm
        rw [hl] at e
        obtain rfl := Option.some.inj e
        exact begun_snd h
  obtain ⟨N, hgo, hst, hw2, hle, hex, hcl⟩ := passes_end hS hr.good hzs hMz _ _ hw (Nat.le_refl _) (Nat.le_refl _)
  refine ⟨N, by rw [← ezs]; exact hgo, by rw [← ezs]; exact hst, ?_⟩
  obtain ⟨st, est⟩ : ∃ st, st = itT zs g.rules (N + 1) (st0L g.rules l r c) := ⟨_, rfl⟩
  rw [← est] at hw2 hle hex hcl
  have hfill : fillL g.rules N l r c = puts l (st.map fun w => (w.1, toFD w.2)) := by
    unfold fillL
    rw [← ezs, ← est]
  have hnd2 : ((st.map fun w => (w.1, toFD w.2)).map (·.1)).Nodup := by
    rw [List.map_map]
    exact hw2.nd
  have hlook : ∀ z, look (fillL g.rules N l r c) z = (match (look st z).map toFD with | some v => some v | none => look l z) := fun z => by
    rw [hfill, look_puts hnd2, look_mapV]
    cases look st z <;> rfl
  have hsome : ∀ z ∈ zs, (look st z).isSome = true := fun z hz => hex z (by rw [(st0_look (by rw [← ezs]; exact hz)).1]; rfl)
  have hin : ∀ z ∈ zs, (∀ a, 1 ≤ a → a < z.2 → (look l (z.1, a)).isSome = true) ∧ (∀ a, 1 ≤ a → a < z.1 → (look l (a, z.2)).isSome = true) := fun z hz => by
    rcases (hmem z).mp hz with e | e
    · rw [e]; exact ⟨hk1, hk2⟩
    · rw [e]; exact ⟨hk3, hk4⟩
  have hbeg : ∀ z ∈ zs, LeF (begunL g.rules l z.1 z.2) (getS st z) := fun z hz => by
    have := hle z
    unfold getS at this
    rw [(st0_look (by rw [← ezs]; exact hz)).1] at this
    exact this
  have hcase : ∀ {P : (Int × Int) → FD → Prop}, (∀ z D, look l z = some D → P z D) → (∀ z f, z ∈ zs → look st z = some f → P z (toFD f)) → ∀ z D, look (fillL g.rules N l r c) z = some D → P z D := fun {P} p1 p2 z D hD => by
    rw [hlook] at hD
    cases hl : look st z with
    | none => rw [hl] at hD; exact p1 z D hD
    | some f =>
      rw [hl] at hD
      have hD : some (toFD f) = some D := hD
      rw [← Option.some.inj hD]
      exact p2 z f (hw2.ky _ (List.mem_map.mpr ⟨_, look_mem hl, rfl⟩)) hl
  have hgs : ∀ z f, look st z = some f → getS st z = f := fun z f e => by unfold getS; rw [e]; rfl
  refine ⟨⟨hcase h.ok fun z f hz e => ?_, hcase h.snd fun z f hz e => ?_, ?_⟩, fun z => ?_, ?_⟩
  · rw [toFD_l]; exact hw2.all z f e
  · rw [toFD_l, ← hgs z f e]; exact hw2.snd z
  · have := hcase (P := fun z D => ∀ r' c' : Nat, z = ((r' : Int), (c' : Int)) → Full g.rules D.l' r' c') (fun z D e r' c' ez => h.full r' c' D (by rw [← ez]; exact e)) fun z f hz e r' c' ez => by
      rw [toFD_l]
      intro p n k hp d
      have := fill_full hr h hzs hin hw2 hbeg hcl d hp (by rw [← ez]; exact hz)
      rw [← ez, hgs z f e] at this
      exact this
    exact fun r' c' D e => this _ D e r' c' rfl
  · rw [hlook]
    by_cases hz : z ∈ zs
    · obtain ⟨f, hf⟩ := Option.isSome_iff_exists.mp (hsome z hz)
      rw [hf]
      exact ⟨fun _ => .inr ((hmem z).mp hz), fun _ => rfl⟩
    · have : look st z = none := by
        cases hl : look st z with
        | none => rfl
        | some f => exact absurd (hw2.ky _ (List.mem_map.mpr ⟨_, look_mem hl, rfl⟩)) hz
      rw [this]
      exact ⟨.inl, fun q => q.elim id fun q => absurd ((hmem z).mpr q) hz⟩
  · rw [hfill]
    refine Nat.le_trans (puts_le _ _) ?_
    rw [List.length_map]
    have h1 : st.length ≤ zs.length := by
      have := nodup_leB hw2.nd hw2.ky
      rwa [List.length_map] at this
    have h2 : zs.length ≤ 2 := by
      rw [ezs, st0_keys]
      split <;> simp
    omega
theorem cells_le_sorted (l : List (Int × Int)) : (l.mergeSort (PySem.W.dataLe false fun z => PyData.int (cellsZ z))).Pairwise fun a b => cellsZ a ≤ cellsZ b := by
  rw [PySem.W.dataLe_int (β := Int × Int) cellsZ]
  refine (List.pairwise_mergeSort (fun a b c => ?_) (fun a b => ?_) l).imp fun h => of_decide_eq_true h
  · simp only [decide_eq_true_eq]; omega
  · simp only [Bool.or_eq_true, decide_eq_true_eq]; omega
theorem within_in {lo hi : Int} {z : Int × Int} : z ∈ withinA lo hi ↔ 1 ≤ z.1 ∧ z.1 ≤ lo ∧ z.1 ≤ z.2 ∧ z.2 ≤ hi := by
  refine ⟨within_mem, fun ⟨h1, h2, h3, h4⟩ => ?_⟩
  exact List.mem_flatMap.mpr ⟨z.1, in_rng h1 (by omega), List.mem_map.mpr ⟨z.2, in_rng h3 (by omega), rfl⟩⟩
theorem withinL_mem {lo hi : Int} {z : Int × Int} : z ∈ withinL lo hi ↔ 1 ≤ z.1 ∧ z.1 ≤ lo ∧ z.1 ≤ z.2 ∧ z.2 ≤ hi :=
  (List.mergeSort_perm _ _).mem_iff.trans within_in
theorem within_len (lo hi : Int) (h1 : 1 ≤ lo) (h2 : lo ≤ hi) (h3 : hi ≤ 6) : (withinL lo hi).length ≤ 36 := by
  unfold withinL
  rw [List.length_mergeSort]
  unfold withinA
  have : ∀ l : List Int, (∀ x ∈ l, 1 ≤ x) → (l.flatMap fun r => (rng r (hi + 1 - r).toNat).map fun c => (r, c)).length ≤ 6 * l.length := fun l => by
    induction l with
    | nil => intro _; exact Nat.le_refl _
    | cons x l ih =>
      intro h
      rw [List.flatMap_cons, List.length_append, List.length_map, List.length_cons, rng_len]
      have h1 := h x (List.mem_cons_self ..)
      have h2 := ih fun y hy => h y (List.mem_cons_of_mem _ hy)
      omega
  have h1 := this (rng 1 lo.toNat) fun x hx => by
    obtain ⟨i, _, rfl⟩ := rng_mem hx
    omega
  rw [rng_len] at h1
  omega
theorem within_ahead {lo hi : Int} {m : Nat} {z y : Int × Int} (hm : (withinL lo hi)[m]? = some z) (hy : y ∈ withinL lo hi) (h : cellsZ y < cellsZ z) : y ∈ (withinL lo hi).take m := by
  obtain ⟨j, hj⟩ := List.getElem?_of_mem hy
  by_cases hjm : j < m
  · exact List.mem_of_getElem? (i := j) (by rw [List.getElem?_take, if_pos hjm]; exact hj)
  · exfalso
    have hs := cells_le_sorted (withinA lo hi)
    rcases Nat.eq_or_lt_of_le (Nat.le_of_not_lt hjm) with e | hlt
    · subst e
      rw [hm] at hj
      rw [Option.some.inj hj] at h
      omega
    · obtain ⟨h1, e1⟩ := List.getElem?_eq_some_iff.mp hm
      obtain ⟨h2, e2⟩ := List.getElem?_eq_some_iff.mp hj
      have := List.pairwise_iff_getElem.mp hs m j h1 h2 hlt
      have e1 : (List.mergeSort (withinA lo hi) (PySem.W.dataLe false fun z => PyData.int (cellsZ z)))[m] = z := e1
      have e2 : (List.mergeSort (withinA lo hi) (PySem.W.dataLe false fun z => PyData.int (cellsZ z)))[j] = y := e2
      rw [e1, e2] at this
      omega
noncomputable def Upto (zs : List (Int × Int)) (l : KeptL) : Prop := ∀ z, (look l z).isSome = true ↔ (z ∈ zs ∨ (z.2, z.1) ∈ zs)
theorem Upto.next {zs : List (Int × Int)} {l l' : KeptL} (h : Upto zs l) {r c : Int} (h' : ∀ z, (look l' z).isSome = true ↔ ((look l z).isSome = true ∨ z = (r, c) ∨ z = (c, r))) : Upto (zs ++ [(r, c)]) l' := fun z => by
  rw [h', h z, List.mem_append, List.mem_append, List.mem_singleton, List.mem_singleton]
  have : (z = (c, r)) ↔ ((z.2, z.1) = (r, c)) := by
    obtain ⟨a, b⟩ := z
    simp only [Prod.mk.injEq]
    exact ⟨fun ⟨x, y⟩ => ⟨y, x⟩, fun ⟨x, y⟩ => ⟨y, x⟩⟩
  rw [← this]
  constructor
  · rintro ((h | h) | (h | h))
    · exact .inl (.inl h)
    · exact .inr (.inl h)
    · exact .inl (.inr h)
    · exact .inr (.inr h)
  · rintro ((h | h) | (h | h))
    · exact .inl (.inl h)
    · exact .inr (.inl h)
    · exact .inl (.inr h)
    · exact .inr (.inr h)
theorem Upto.have_all {lo hi : Int} {m : Nat} {l : KeptL} (h : Upto ((withinL lo hi).take m) l) {r c : Int} (hm : (withinL lo hi)[m]? = some (r, c)) :
    (∀ a, 1 ≤ a → a < c → (look l (r, a)).isSome = true) ∧ (∀ a, 1 ≤ a → a < r → (look l (a, c)).isSome = true) ∧ (∀ a, 1 ≤ a → a < r → (look l (c, a)).isSome = true) ∧ (∀ a, 1 ≤ a → a < c → (look l (a, r)).isSome = true) := by
  obtain ⟨h1, h2, h3, h4⟩ := withinL_mem.mp (List.mem_of_getElem? hm)
  simp only at h1 h2 h3 h4
  have one : ∀ a, 1 ≤ a → a < c → (r, a) ∈ (withinL lo hi).take m ∨ (a, r) ∈ (withinL lo hi).take m := fun a ha hac => by
    have hc : r * a < r * c := Int.mul_lt_mul_of_pos_left hac (by omega)
    by_cases hra : r ≤ a
    · exact .inl (within_ahead hm (withinL_mem.mpr ⟨h1, h2, hra, by simp only; omega⟩) hc)
    · refine .inr (within_ahead hm (withinL_mem.mpr ⟨ha, by simp only; omega, by simp only; omega, by simp only; omega⟩) ?_)
      show a * r < r * c
      rw [Int.mul_comm]; exact hc
  have two : ∀ a, 1 ≤ a → a < r → (a, c) ∈ (withinL lo hi).take m := fun a ha har => by
    refine within_ahead hm (withinL_mem.mpr ⟨ha, by simp only; omega, by simp only; omega, h4⟩) ?_
    exact Int.mul_lt_mul_of_pos_right har (by omega)
  refine ⟨fun a h1 h2 => (h _).mpr (one a h1 h2), fun a h1 h2 => (h _).mpr (.inl (two a h1 h2)), fun a h1 h2 => (h _).mpr (.inr (two a h1 h2)), fun a h1 h2 => (h _).mpr ((one a h1 h2).symm)⟩
local macro_rules | `(tactic| walk_at "le") => `(tactic| repeat (first | exact le_nil | refine le_cons ?_ | refine le_no ?_))
noncomputable abbrev picPy (x : Pic × Int) : PyData := (IsD.d x.1 : Dy).py
theorem picPy_eq (x : Pic × Int) : picPy x = .list (Dy.pys (x.1.map Dy.s)) := by
  show Dy.py (.l (x.1.map Dy.s)) = _
  rw [Dy.py]
theorem picPy_alike (l : List (Pic × Int)) : PySem.W.AllAlike (l.map picPy) := PySem.W.AllAlike.of fun x y => by
  rw [picPy_eq, picPy_eq, PySem.W.alike, alike_strs]
theorem picPy_sortable (l : List (Pic × Int)) : PySem.W.Sortable (l.map picPy) := .inr fun x hx => by
  obtain ⟨a, _, rfl⟩ := List.mem_map.mp hx
  rw [picPy_eq]
  exact ⟨(fun z => nomatch z), fun _ z => nomatch z⟩
theorem picPy_depth (x : Pic × Int) : (picPy x).depth ≤ 64 := by
  rw [picPy_eq, PyData.depth, depth_strs]
  decide
structure Told (g : GramD) (n : Tx) (r c : Nat) (L : List (Pic × Int)) : Prop where
  nd : (L.map (·.1)).Nodup
  pk : ∀ x ∈ L, Pk x.1 r c ∧ InSg g.signs x.1 ∧ Der g.rules x.1 n x.2
  all : ∀ p k, Pk p r c → Der g.rules p n k → ∃ v, v ≤ k ∧ (p, v) ∈ L
  srt : ∃ L0 : List (Pic × Int), L = L0.mergeSort (PySem.W.dataLe false picPy)
noncomputable def picOfS : Tw.Spec := fun A P _ => ∃ (z : Pic × Int), A = [vl z] ∧ P (rv z.1)
structure PicsPre (g : GramD) (r c : Nat) : Prop where
  md : g.Made
  r1 : 1 ≤ r
  r6 : r ≤ 6
  c1 : 1 ≤ c
  c6 : c ≤ 6
noncomputable def picsS : Tw.Spec := fun A P R => ∃ (g : GramD) (n : Tx) (r c : Nat), A = [vl g, vl n, vl (r : Int), vl (c : Int)] ∧ PicsPre g r c ∧ (n ∉ g.names → R NoNameX) ∧ (n ∈ g.names → 300 < g.signs.length ^ (r * c) → R ⟨"TooMany", "", .no⟩) ∧ (n ∈ g.names → g.signs.length ^ (r * c) ≤ 300 → ∀ L, Told g n r c L → P (rn L))
theorem made_signs {g : GramD} (hg : g.Made) : 1 ≤ g.signs.length ∧ g.signs.length ≤ 4 ∧ ∀ k ∈ g.signs, k ∈ smallTx := by
  have h := hg.ok.sg
  unfold signsOk at h
  simp only [Bool.and_eq_true, decide_eq_true_eq, List.all_eq_true] at h
  exact ⟨h.1.1, h.1.2, fun k hk => h.2.2 k hk⟩
theorem made_rs {g : GramD} (hg : g.Made) : RSok g.signs g.names g.rules := by
  have hb : badSign g.signs 0 g.rules = none := by
    have h := hg.why
    unfold whyG at h
    split at h
    · cases h
    split at h
    · cases h
    cases hw : whyRules g.signs g.rules with
    | some y => rw [hw] at h; cases h
    | none =>
      unfold whyRules at hw
      split at hw
      · cases hw
      · exact Option.map_eq_none_iff.mp hw
  have key : ∀ (rs : List RuleD) (k : Nat), badSign g.signs k rs = none → ∀ q ∈ rs, q.signIn g.signs = true := fun rs => by
    induction rs with
    | nil => intro k _ q hq; exact (List.not_mem_nil hq).elim
    | cons r rs ih =>
      intro k h q hq
      unfold badSign at h
      split at h
      · rename_i hr
        rcases List.mem_cons.mp hq with rfl | hq
        · exact hr
        · exact ih _ h q hq
      · cases h
  refine ⟨fun q hq => ⟨made_nmZ hg hq, hg.ok.rs q hq⟩, fun n co s hm => ?_, fun k hk => ?_⟩
  · have h1 := key _ _ hb _ hm
    have h2 := hg.ok.rs _ hm
    simp only [RuleD.good, Bool.and_eq_true] at h2
    have h2 := h2.1
    unfold signOk at h2
    simp only [Bool.and_eq_true, decide_eq_true_eq] at h2
    have h1 : decide (s.headD 0 ∈ g.signs) = true := h1
    have h1 := of_decide_eq_true h1
    obtain ⟨h3, _⟩ := h2
    intro y hy k hk
    rw [List.mem_singleton.mp hy] at hk
    match s, h3 with
    | [d], _ =>
      rw [List.mem_singleton.mp hk]
      exact h1
  · have := (made_signs hg).2.2 k hk
    have := small_lt k this
    have h97 : ∀ k ∈ smallTx, k ≠ 47 := by decide
    exact h97 k ((made_signs hg).2.2 k hk)
theorem told_of {g : GramD} (hg : g.Made) {n : Tx} {r c : Nat} {l : KeptL} (h : KInv g.signs g.names g.rules l) {D : FD} (hD : look l ((r : Int), (c : Int)) = some D) : Told g n r c ((vals D.l' n).mergeSort (PySem.W.dataLe false picPy)) := by
  have hr := made_rs hg
  have hperm := List.mergeSort_perm (vals D.l' n) (PySem.W.dataLe false picPy)
  have hF := h.ok _ D hD
  have hS := h.snd _ D hD
  refine ⟨?_, fun x hx => ?_, fun p k hp d => ?_, _, rfl⟩
  · rw [(hperm.map (·.1)).nodup_iff]
    obtain ⟨nd, hy⟩ := hF.own n
    unfold vals
    rw [List.map_map]
    refine List.pairwise_map.mpr ((List.pairwise_map.mp nd).imp_of_mem fun {a b} ha hb hne e => hne ?_)
    have e : a.2.1 = b.2.1 := e
    rw [(hy a ha).2, (hy b hb).2, e]
  · have hx := hperm.mem_iff.mp hx
    obtain ⟨⟨r', c', hk, e1, e2⟩, hs⟩ := picsOf_pk (vals_of hF hx)
    obtain rfl : r' = r := by omega
    obtain rfl : c' = c := by omega
    exact ⟨hk, hs, hS.vals hx⟩
  · obtain ⟨v, hv, hm⟩ := (h.full r c D hD p n k hp d).mem hr hF hp (der_sg hr d)
    exact ⟨v, hv, hperm.mem_iff.mpr hm⟩
section
variable {P : Program} {w : World} {K : PySem.W.Frag} {mg : Str → Option Value} {base : Heap}
theorem ok_picture_of (T : Txt K mg) : Has P w K mg base 1 "picture_of" ["pair"] picOfS := by
  refine Has.of (k := 0) T.f_picture_of sc_picture_of (fun A Q R ⟨z, e, _⟩ => by rw [e]; rfl) fun f cdv A outer s0 H E hr Γ Q R ⟨z, e, hq⟩ => ?_
  subst e
  exact st_retV (ev_fst (x := z) (ev_var 0)) hq
theorem ok_pictures_of (T : Txt K mg) : Has P w K mg base 18 "pictures_of" ["grammar", "name", "rows", "columns"] picsS := by
  refine Has.ofX (k := 17) T.f_pictures_of sc_pictures_of (fun A Q R ⟨g, n, r, c, e, _⟩ => by rw [e]; rfl) fun f cdv A outer s0 H E hr Γ Q R ⟨g, n, r, c, e, ⟨hg, r1, r6, c1, c6⟩, q1, q2, q3⟩ => ?_
  subst e
  have h24 := hg.ok.many
  obtain ⟨s1, s4, _⟩ := made_signs hg
  by_cases hn : n ∉ g.names
  · exact st_dropR (R := fun y => y = NoNameX) (exx_meth (x := g) T.o_Grammar (ok_Grammar_numbers_of T) (hr.mono (by decide)) rfl (lk rfl) (ev_var 0) (ea_cons (x := n) (ev_var 1) ea_nil) fun P' R' _ h' => ⟨g, n, rfl, by omega, fun z => absurd z hn, fun _ => h' _ rfl⟩) (fun y e => e ▸ q1 hn)
  have hn : n ∈ g.names := Classical.not_not.mp hn
  refine st_dropX (P := fun _ => True) (R := fun _ => False) (exx_meth (x := g) T.o_Grammar (ok_Grammar_numbers_of T) (hr.mono (by decide)) rfl (lk rfl) (ev_var 0) (ea_cons (x := n) (ev_var 1) ea_nil) fun P' R' h' _ => ⟨g, n, rfl, by omega, fun _ => h' _ trivial, fun z => absurd hn z⟩) ?_ (fun _ z => z.elim)
  refine st_set 4 (x := (1 : Int)) ev_int ?_ sc_pictures_of.nd
  have hrc : ((r : Int) * (c : Int)) = ((r * c : Nat) : Int) := (Int.natCast_mul r c).symm
  have hrc36 : r * c ≤ 36 := Nat.mul_le_mul r6 c6
  have hpow : ∀ m, g.signs.length ^ (m + 1) = g.signs.length ^ m * g.signs.length := fun m => by rw [Nat.pow_succ]
  refine st_for (xs := rng 0 ((r * c : Nat) : Int).toNat) (fun m Γ' => g.signs.length ^ m ≤ 300 ∧ Le Γ' [vl g, vl n, vl (r : Int), vl (c : Int), vl ((g.signs.length ^ m : Nat) : Int), .no, .no, .no, .no, .no, .no]) (src_range T.b_range (ev_eq (ev_bin (o_mul (.inl ⟨by omega, by omega⟩)) (ev_var (x := (r : Int)) 2) (ev_var (x := (c : Int)) 3)) hrc) (by omega) (by omega)) (tg_name 5) ⟨by simp, by walk_at "le"⟩ (fun m x Γ' hm hP => ?_) (fun Γ' hP => ?_) (pgn 5 sc_pictures_of.nd)
  · obtain ⟨hp, le⟩ := hP
    obtain ⟨hm1, _⟩ := rng_get0 hm
    have hm1 : m < r * c := by omega
    refine st_le (Le.set le 5 _) ?_
    refine st_le (Γ' := [vl g, vl n, vl (r : Int), vl (c : Int), vl ((g.signs.length ^ m : Nat) : Int), vl x, .no, .no, .no, .no, .no]) (by walk_at "le") ?_
    refine st_set 4 (x := ((g.signs.length ^ (m + 1) : Nat) : Int)) (ev_eq (ev_bin (o_mul (.inl ⟨by omega, by omega⟩)) (ev_var (x := ((g.signs.length ^ m : Nat) : Int)) 4) (ev_lenS T.b_len (ev_fld (x := g) (y := g.signs) T.o_Grammar T.a_Grammar_signs rfl rfl (ev_var 0)) (sl_small (by omega)))) (by rw [hpow, Int.natCast_mul])) ?_ sc_pictures_of.nd
    refine st_if (et_cmp o_gt (ev_var (x := ((g.signs.length ^ (m + 1) : Nat) : Int)) 4) (ev_gintE T.c_MOST_PICTURES)) (fun h => ?_) (fun h => ?_)
    · have h := of_decide_eq_true h
      refine st_raise0 T.x_TooMany T.p_TooMany (q2 hn ?_)
      exact Nat.lt_of_lt_of_le (by omega) (Nat.pow_le_pow_right s1 (show m + 1 ≤ r * c by omega))
    · have h := of_decide_eq_false h
      exact st_nil (st_nil ⟨by omega, by walk_at "le"⟩)
  · obtain ⟨hp, le⟩ := hP
    have e : (rng 0 ((r * c : Nat) : Int).toNat).length = r * c := by rw [rng_len]; omega
    rw [e] at hp le
    refine st_le le ?_
    refine st_setO 6 (ex_makeC (i := repInst) (j := (repDic : Rep FD)) (f1 := "grammar") (f2 := "kept") (x := g) (κ := Int × Int) (β := FD) T.o_Sizes (ok_Sizes_init T) (hr.mono (by decide)) (ea_cons (x := g) (ev_var 0) ea_nil) rfl (fun C hC ad dx P' R' h => ⟨C, ad, dx, g, rfl, hC, h⟩)) (fun o ⟨C, a, dx, da, hC, e⟩ => ?_) sc_pictures_of.nd
    subst e
    obtain ⟨C0, kC, gC⟩ := T.o_Sizes
    obtain rfl := ns_one kC.ns hC
    have hrs := made_rs hg
    have hM : g.signs.length ^ (r * c) ≤ 1000 := by omega
    obtain ⟨lo, elo⟩ : ∃ lo : Int, lo = (if (c : Int) < r then (c : Int) else r) := ⟨_, rfl⟩
    obtain ⟨hi, ehi⟩ : ∃ hi : Int, hi = (if (r : Int) < c then (c : Int) else r) := ⟨_, rfl⟩
    have b1 : 1 ≤ lo ∧ lo ≤ hi ∧ hi ≤ 6 := by
      rw [elo, ehi]
      split <;> split <;> omega
    have hcells : lo * hi = ((r * c : Nat) : Int) := by
      rw [← hrc, elo, ehi]
      split <;> split
      · omega
      · exact Int.mul_comm ..
      · rfl
      · have : (r : Int) = c := by omega
        rw [this]
    refine st_for (xs := withinL lo hi) (fun m Γ' => ∃ l, Le Γ' [vl g, vl n, vl (r : Int), vl (c : Int), vl ((g.signs.length ^ (r * c) : Nat) : Int), .no, .own (sO C a dx da g l), .no, .no, .no, .no] ∧ KInv g.signs g.names g.rules l ∧ Upto ((withinL lo hi).take m) l ∧ l.length ≤ 2 * m) (src_list (ev_of_en (en_call (ok_sizes_within T) (hr.mono (by decide)) (ea_cons (x := (r : Int)) (ev_var 2) (ea_cons (x := (c : Int)) (ev_var 3) ea_nil)) fun P' R' h => ⟨(r : Int), (c : Int), rfl, by omega, by omega, by omega, by omega, by rw [← elo, ← ehi]; exact h⟩))) (tg_name 7) ⟨[], by walk_at "le", KInv.nil, (fun z => ⟨fun h => (by cases h), fun h => (by rcases h with h | h <;> exact (List.not_mem_nil h).elim)⟩), Nat.zero_le _⟩ (fun m z Γ' hm hP => ?_) (fun Γ' hP => ?_) (pgn 7 sc_pictures_of.nd)
    · obtain ⟨l, le, hk, hu, hl⟩ := hP
      obtain ⟨zr, zc⟩ := z
      obtain ⟨z1, z2, z3, z4⟩ := withinL_mem.mp (List.mem_of_getElem? hm)
      simp only at z1 z2 z3 z4
      have hwl := within_len lo hi b1.1 b1.2.1 b1.2.2
      have hml := (List.getElem?_eq_some_iff.mp hm).1
      obtain ⟨k1, k2, k3, k4⟩ := hu.have_all hm
      have hzc : zr * zc ≤ ((r * c : Nat) : Int) := by
        rw [← hcells]
        exact Int.mul_le_mul z2 z4 (by omega) (by omega)
      obtain ⟨N, hgo, hst, hk', hu', hl'⟩ := fill_next s1 hM hg hrs hk z1 (by omega) (by omega : 1 ≤ zc) (by omega) hzc k1 k2 k3 k4
      refine st_le (Le.set le 7 _) ?_
      refine st_le (Γ' := [vl g, vl n, vl (r : Int), vl (c : Int), vl ((g.signs.length ^ (r * c) : Nat) : Int), .no, .own (sO C a dx da g l), vl ((zr, zc) : Int × Int), .no, .no, .no]) (by walk_at "le") ?_
      refine st_dropG (P := fun _ Γ' => Γ' = [vl g, vl n, vl (r : Int), vl (c : Int), vl ((g.signs.length ^ (r * c) : Nat) : Int), .no, .own (sO C a dx da g (fillL g.rules N l zr zc)), vl ((zr, zc) : Int × Int), .no, .no, .no]) (R := fun _ _ => False) (eg_methC 6 (lr := repUnit) (m := "fill") (G := fun _ o => o = sO C a dx da g (fillL g.rules N l zr zc)) T.o_Sizes (ok_Sizes_fill T) (hr.mono (by decide)) hC (by decide) (by decide) (ea_cons (x := zr) (ev_fst (x := ((zr, zc) : Int × Int)) (ev_var 7)) (ea_cons (x := zc) (ev_snd (x := ((zr, zc) : Int × Int)) (ev_var 7)) ea_nil)) rfl rfl (fun _ _ e => by rw [e]; rfl) (fun _ o e => by rw [e]; rfl) fun P' R' h _ => ⟨C, a, dx, da, g, l, picsOf g.signs, ((r * c : Nat) : Int), zr, zc, N, rfl, hC, hg, picsOf_ok s1 hM, hk.ok, hzc, by omega, z1, by omega, by omega, by omega, k1, k2, k3, k4, fun n' co s hmm _ _ => (picsOf_mem (cell_pk hrs hmm)).mpr (hrs.cell n' co s hmm), hgo, hst, h _ _ rfl⟩) (fun _ Γ3 hG => ?_) (fun _ _ z => z.elim)
      subst hG
      refine st_nil ⟨_, by walk_at "le", hk', ?_, by omega⟩
      have e2 : (withinL lo hi).take (m + 1) = (withinL lo hi).take m ++ [(zr, zc)] := by
        rw [List.take_add_one, hm]; rfl
      rw [e2]
      exact hu.next hu'
    · obtain ⟨l, le, hk, hu, hl⟩ := hP
      rw [List.take_length] at hu
      have hs : (look l ((r : Int), (c : Int))).isSome = true := by
        rw [hu]
        by_cases h : (c : Int) < r
        · refine .inr (withinL_mem.mpr ?_)
          rw [elo, ehi, if_pos h, if_neg (by omega)]
          refine ⟨?_, ?_, ?_, ?_⟩ <;> simp only <;> omega
        · refine .inl (withinL_mem.mpr ?_)
          rw [elo, ehi, if_neg h]
          refine ⟨?_, ?_, ?_, ?_⟩ <;> simp only
          · omega
          · omega
          · omega
          · split <;> omega
      obtain ⟨D, hD⟩ := Option.isSome_iff_exists.mp hs
      have hTold := told_of hg (n := n) hk hD
      have hfew : (vals D.l' n).length ≤ 1000 := by
        have h1 := (hk.ok _ D hD).lenN n
        have h2 := (picsOf_ok s1 hM).few (r : Int) (c : Int) (by omega)
        unfold vals
        rw [List.length_map]
        omega
      refine st_le le ?_
      have hfew2 : ((notes (D.l.map fun p => (p.1, p.2.l)) n).map (·.2)).length ≤ 1000 := hfew
      refine st_setLc 8 (α := Pic × Int) (β := Pic × Int) (own := [("picture", 9), ("cost", 10)]) (f := fun x => (x.1, x.2)) (src_list (ev_of_en (en_call (ok_made_ofD T) (hr.mono (by decide)) (ea_cons (x := D) (ev_cget 6 (f1 := "grammar") (f2 := "kept") hr (by decide) kC.cl (T.a_Sizes_kept _ hC) (ev_pair (ev_var (x := (r : Int)) 2) (ev_var (x := (c : Int)) 3)) hD) (ea_cons (x := n) (ev_var 1) ea_nil)) fun P' R' h => ⟨D, n, rfl, h⟩))) (tg_pair 9 10 (by decide)) (fun _ _ _ _ _ => pg2 9 10 (pgn 9 sc_pictures_of.nd) (pgn 10 sc_pictures_of.nd)) (fun x hx _ _ _ _ _ => ev_pair (ev_of_en (en_list T.b_list (ev_var (x := x.1) 9))) (ev_var (x := x.2) 10)) sc_pictures_of.nd (sl_small (by omega)) (fun a1 => ?_) (ok := bk_pictures_of (by decide +kernel))
      refine st_freeze 8 frozL ?_
      have eid : ((notes (D.l.map fun p => (p.1, p.2.l)) n).map (·.2)).map (fun x : Pic × Int => (x.1, x.2)) = vals D.l' n := List.map_id _
      rw [eid]
      refine st_retE (en_sortedK (xs := vals D.l' n) (kf := fun z : Pic × Int => z.1) T.b_sorted (ev_var 8) (ok_picture_of T) (hr.mono (by decide)) (fun z hz P' R' h => ⟨z, rfl, h⟩) (picPy_alike _) (picPy_sortable _) fun x hx => picPy_depth x) (q3 hn hp _ hTold)
end
local macro_rules | `(tactic| walk_at "le") => `(tactic| repeat (first | exact le_nil | refine le_cons ?_ | refine le_no ?_))
noncomputable def capI (n : Int) : Nat := 65 + (n % 26).toNat
theorem cap_at : ∀ n, n < 26 → capTx[n]? = some (65 + n) := by decide +kernel
theorem cap_atI (n : Int) : atI capTx (n % 26) = some (capI n) := by
  have h1 := Int.emod_nonneg n (by decide : (26 : Int) ≠ 0)
  have h2 := Int.emod_lt_of_pos n (by decide : (0 : Int) < 26)
  have := atI_nat (cap_at (n % 26).toNat (by omega))
  rw [show (((n % 26).toNat : Nat) : Int) = n % 26 by omega] at this
  exact this
theorem capI_mem (n : Int) : capI n ∈ capTx := by
  have h1 := Int.emod_nonneg n (by decide : (26 : Int) ≠ 0)
  have h2 := Int.emod_lt_of_pos n (by decide : (0 : Int) < 26)
  exact List.mem_of_getElem? (cap_at (n % 26).toNat (by omega))
noncomputable def RuleD.of (signs : Tx) (r : RuleD) : Prop := match r with
  | .cell _ _ s => ∃ d ∈ signs, s = [d]
  | _ => True
theorem badSign_of {signs : Tx} : ∀ {rs : List RuleD} {k : Nat}, (∀ r ∈ rs, r.signIn signs = true) → badSign signs k rs = none
  | [], _, _ => rfl
  | r :: rs, k, h => by
    unfold badSign
    rw [h r (List.mem_cons_self ..), if_pos rfl]
    exact badSign_of fun q hq => h q (List.mem_cons_of_mem _ hq)
theorem RuleD.of_in {signs : Tx} {r : RuleD} (h : r.of signs) : r.signIn signs = true := by
  cases r with
  | cell n c s =>
    obtain ⟨d, hd, rfl⟩ := h
    exact decide_eq_true hd
  | _ => rfl
theorem nodup_le2 {l : List Tx} : ∀ {m : List Tx}, l.Nodup → (∀ x ∈ l, x ∈ m) → l.length ≤ m.length := by
  induction l with
  | nil => intro m _ _; exact Nat.zero_le _
  | cons x l ih =>
    intro m nd sub
    rw [List.nodup_cons] at nd
    have hx := sub x (List.mem_cons_self ..)
    have h1 := ih (m := m.erase x) nd.2 fun y hy => (List.mem_erase_of_ne fun (e : y = x) => nd.1 (e ▸ hy)).mpr (sub y (List.mem_cons_of_mem _ hy))
    rw [List.length_erase_of_mem hx] at h1
    have := List.length_pos_of_mem hx
    rw [List.length_cons]
    omega
theorem addNew_nd {met : List Tx} {n : Tx} (h : met.Nodup) : (addNew met n).Nodup := by
  unfold addNew
  split
  · exact h
  · rename_i hn
    rw [List.nodup_append]
    refine ⟨h, by simp, fun a ha b hb e => ?_⟩
    rw [List.mem_singleton.mp hb] at e
    exact hn (e ▸ ha)
theorem addAll_nd : ∀ {ns met : List Tx}, met.Nodup → (ns.foldl addNew met).Nodup
  | [], _, h => h
  | n :: ns, met, h => addAll_nd (ns := ns) (addNew_nd h)
theorem metAll_nd : ∀ {rs : List RuleD} {met : List Tx}, met.Nodup → (rs.foldl metR met).Nodup
  | [], _, h => h
  | r :: rs, met, h => metAll_nd (rs := rs) (addAll_nd h)
theorem metL_nd (start : Tx) (rs : List RuleD) : (metL start rs).Nodup := metAll_nd (by simp)
theorem why_drawn {signs start : Tx} {names : List Tx} {rs : List RuleD} (h1 : signsOk signs = true) (h2 : isName start = true) (h3 : start ∈ names) (h4 : names.length ≤ 8) (h5 : rs.length ≤ 24) (h6 : ∀ r ∈ rs, r.of signs ∧ ∀ n ∈ r.name :: r.parts, n ∈ names) : whyG signs start rs = none := by
  have hb : badSign signs 0 rs = none := badSign_of fun r hr => RuleD.of_in (h6 r hr).1
  have hl : (metL start rs).length ≤ names.length := nodup_le2 (metL_nd _ _) fun x hx => by
    rcases metAll_mem.mp hx with z | ⟨r, hr, z⟩
    · rw [List.mem_singleton.mp z]; exact h3
    · exact (h6 r hr).2 x z
  unfold whyG
  rw [if_neg (by rw [h1]; decide), if_neg (by rw [h2]; decide)]
  unfold whyRules
  rw [if_neg (by omega), hb]
  show (if 8 < (metL start rs).length then _ else none) = none
  rw [if_neg (by omega)]
theorem sm_nodup : ∀ a < 26, ∀ st < 6, ∀ n < 5, ((List.range n).map fun k => 97 + (a + k * (1 + 2 * st)) % 26).Nodup := by decide +kernel
structure RowQ where
  r : RuleD
noncomputable def RuleD.kdI : RuleD → Int
  | .cell .. => 0
  | .beside .. => 1
  | .above .. => 2
  | .turn .. => 3
noncomputable def RuleD.tl2 : RuleD → List Dy
  | .cell _ _ s => [.s s, .s []]
  | .beside _ _ a b => [.s a, .s b]
  | .above _ _ a b => [.s a, .s b]
  | .turn _ _ a t => [.s a, .i t]
noncomputable def RowQ.d (q : RowQ) : Dy := .t (.s q.r.name :: .i q.r.cost :: .i q.r.kdI :: q.r.tl2)
noncomputable instance repRowQ : Rep RowQ := repOfD RowQ.d
noncomputable instance isdRowQ : IsD RowQ := ⟨RowQ.d, Iff.rfl⟩
section
variable {X : Cx} {Γ : List Slot} {pos p p2 : Pos} {e a b : Expr} {q : RowQ}
theorem ev_qn (h : EV X Γ e q) (hi : EV X Γ b (0 : Int)) (hp : autoParam (PlainIx b) Tw.aIR2) : EV X Γ (.Subscript e b pos) q.r.name := ev_ixY (α := RowQ) (β := Tx) h hi rfl (atI_nat (j := 0) rfl) hp
theorem ev_qc (h : EV X Γ e q) (hi : EV X Γ b (1 : Int)) (hp : autoParam (PlainIx b) Tw.aIR2) : EV X Γ (.Subscript e b pos) q.r.cost := ev_ixY (α := RowQ) (β := Int) h hi rfl (atI_nat (j := 1) rfl) hp
theorem ev_qk (h : EV X Γ e q) (hi : EV X Γ b (2 : Int)) (hp : autoParam (PlainIx b) Tw.aIR2) : EV X Γ (.Subscript e b pos) q.r.kdI := ev_ixY (α := RowQ) (β := Int) h hi rfl (atI_nat (j := 2) rfl) hp
theorem ev_q3 {x : Tx} (h : EV X Γ e q) (hi : EV X Γ b (3 : Int)) (hx : q.r.tl2[0]? = some (.s x)) (hp : autoParam (PlainIx b) Tw.aIR2) : EV X Γ (.Subscript e b pos) x := ev_ixY (α := RowQ) (β := Tx) h hi rfl (atI_nat (j := 3) (show q.r.tl2[0]? = some (.s x) from hx)) hp
theorem ev_q4 {β : Type} {j : Rep β} [h2 : IsD β] {x : β} (h : EV X Γ e q) (hi : EV X Γ b (4 : Int)) (hx : q.r.tl2[1]? = some (h2.d x)) (hp : autoParam (PlainIx b) Tw.aIR2) : EV X Γ (.Subscript e b pos) x := ev_ixY (α := RowQ) (β := β) h hi rfl (atI_nat (j := 4) (show q.r.tl2[1]? = some (h2.d x) from hx)) hp
end
structure DrawnQ (names : List Tx) (signs : Tx) (r : RuleD) : Prop where
  good : r.good = true
  of : r.of signs
  nm : ∀ n ∈ r.name :: r.parts, n ∈ names
noncomputable def cellsL (s : List Int) (b m : Int) : List Int := (rng b (b + (m - lawCell s 62 % m / 2) - b).toNat).map fun k => lawCell s k
theorem cellsL_len {s : List Int} {b m : Int} (hm : 1 ≤ m) : (cellsL s b m).length ≤ m.toNat := by
  have h1 := Int.emod_nonneg (lawCell s 62) (by omega : m ≠ 0)
  unfold cellsL
  rw [List.length_map, rng_len]
  omega
noncomputable def cellsS : Tw.Spec := fun A P _ => ∃ (s : Scr) (b m : Int), A = [vl s, vl b, vl m] ∧ s.l.length ≤ 63 ∧ 0 ≤ b ∧ b ≤ 60 ∧ 1 ≤ m ∧ m ≤ 60 ∧ P (rn (cellsL s.l b m))
noncomputable def names32S : Tw.Spec := fun A P _ => ∃ (c : Int), A = [vl c] ∧ ∀ ns : List Tx, ns.length = 4 → (∀ n ∈ ns, isName n = true) → P (rn ns)
noncomputable def rule32S : Tw.Spec := fun A P _ => ∃ (q : RowQ), A = [vl q] ∧ q.r.good = true ∧ P (rv q.r)
noncomputable def gram32S : Tw.Spec := fun A P _ => ∃ (signs st : Tx) (rules : List RowQ), A = [vl signs, vl st, vl rules] ∧ signs.length ≤ 4 ∧ st.length ≤ 4 ∧ rules.length ≤ 24 ∧ (∀ q ∈ rules, q.r.good = true) ∧ whyG signs st (rules.map RowQ.r) = none ∧ P (rv (mkG signs st (rules.map RowQ.r)))
noncomputable def drawn39S : Tw.Spec := fun A P _ => ∃ (c : Int) (signs : Tx) (names : List Tx), A = [vl c, vl signs, vl names] ∧ signsOk signs = true ∧ names.length = 4 ∧ (∀ n ∈ names, isName n = true) ∧ ∀ q : RowQ, DrawnQ names signs q.r → P (rv q)
theorem signs_good (a st n : Nat) (ha : a < 26) (hst : st < 6) (hn : n < 5) (h0 : 1 ≤ n) {x : Tx} (e : x = (List.range n).map fun k => 97 + (a + k * (1 + 2 * st)) % 26) : signsOk x = true := by
  have hl : x.length = n := by rw [e, List.length_map, List.length_range]
  have hin : ∀ y ∈ x, y ∈ smallTx := fun y hy => by
    rw [e] at hy
    obtain ⟨k, _, rfl⟩ := List.mem_map.mp hy
    have : ∀ m, m < 26 → smallTx[m]? = some (97 + m) := by decide +kernel
    exact List.mem_of_getElem? (this ((a + k * (1 + 2 * st)) % 26) (Nat.mod_lt _ (by decide)))
  unfold signsOk
  rw [decide_eq_true (show 1 ≤ x.length by omega), decide_eq_true (show x.length ≤ 4 by omega), decide_eq_true (show x.Nodup by rw [e]; exact sm_nodup a ha st hst n hn)]
  rw [show (x.all fun c => decide (c ∈ smallTx)) = true from List.all_eq_true.mpr fun y hy => decide_eq_true (hin y hy)]
  rfl
theorem name_of {x : Tx} (h1 : 1 ≤ x.length) (h2 : x.length ≤ 4) (h3 : ∀ c ∈ x, c ∈ capTx) : isName x = true := by
  unfold isName
  rw [decide_eq_true h1, decide_eq_true h2, List.all_eq_true.mpr fun c hc => decide_eq_true (h3 c hc)]
  rfl
section
variable {P : Program} {w : World} {K : PySem.W.Frag} {mg : Str → Option Value} {base : Heap}
theorem ok_law_cells (T : Txt K mg) : Has P w K mg base 2 "_law_cells" ["_law_script", "_law_begin", "_law_most"] cellsS := by
  refine Has.of T.f_law_cells sc_law_cells (fun A Q R ⟨s, b, m, e, _⟩ => by rw [e]; rfl) fun f cdv A outer s0 H E hr Γ Q R ⟨s, b, m, e, hs, hb0, hb, hm1, hm, hq⟩ => ?_
  subst e
  have h1 := Int.emod_nonneg (lawCell s.l 62) (by omega : m ≠ 0)
  have h2 := Int.emod_lt_of_pos (lawCell s.l 62) (by omega : 0 < m)
  refine st_set 3 (x := m - lawCell s.l 62 % m / 2) (ev_bin o_sub (ev_var 2) (ev_bin (o_div divK) (ev_bin (o_mod (by omega)) (ev_call (x := lawCell s.l 62) (ok_law_cell T) (hr.mono (by decide)) (ea_cons (ev_var 0) (ea_cons (x := (62 : Int)) ev_int ea_nil)) fun P R h => ⟨s, 62, rfl, hs, by decide, h⟩) (ev_var 2)) ev_int)) ?_ sc_law_cells.nd
  refine st_retE (en_lc (α := Int) (β := Int) (own := [("_law_k", 4)]) (f := fun k => lawCell s.l k) (src_range2 (m := b) (n := b + (m - lawCell s.l 62 % m / 2)) T.b_range (ev_var 1) (ev_bin o_add (ev_var 1) (ev_var 3)) (by omega)) (tg_name 4) (fun _ _ _ _ _ => pgn 4 sc_law_cells.nd) (fun k hk _ _ _ _ _ => ev_call (ok_law_cell T) (hr.mono (by decide)) (ea_cons (ev_var 0) (ea_cons (ev_var 4) ea_nil)) fun P R h => ⟨s, k, rfl, hs, by (obtain ⟨j, _, rfl⟩ := rng_mem hk; omega), h⟩) sc_law_cells.nd (ok := bk_law_cells (by decide +kernel)) (hz := by rw [rng_len]; exact sl_small (by omega))) hq
theorem ok_law_names (T : Txt K mg) : Has P w K mg base 1 "_law_names" ["_law_cell_here"] names32S := by
  refine Has.of (k := 0) T.f_law_names sc_law_names (fun A Q R ⟨c, e, _⟩ => by rw [e]; rfl) fun f cdv A outer s0 H E hr Γ Q R ⟨c, e, hq⟩ => ?_
  subst e
  have a1 := Int.emod_nonneg c (by decide : (4 : Int) ≠ 0)
  have a2 := Int.emod_lt_of_pos c (by decide : (0 : Int) < 4)
  have a3 := Int.emod_nonneg (c / 16) (by decide : (6 : Int) ≠ 0)
  have a4 := Int.emod_lt_of_pos (c / 16) (by decide : (0 : Int) < 6)
  refine st_set 1 (x := capTx) (ev_str "ABCDEFGHIJKLMNOPQRSTUVWXYZ") ?_ sc_law_names.nd
  refine st_set 2 (x := 1 + c % 4) (ev_bin o_add ev_int (ev_bin (o_mod (by decide)) (ev_var 0) ev_int)) ?_ sc_law_names.nd
  have a5 := Int.emod_nonneg (c / 4) (by omega : 1 + c % 4 ≠ 0)
  have a6 := Int.emod_lt_of_pos (c / 4) (by omega : 0 < 1 + c % 4)
  obtain ⟨at_, hat⟩ : ∃ a : Nat, c / 4 % (1 + c % 4) = (a : Int) := ⟨(c / 4 % (1 + c % 4)).toNat, by omega⟩
  refine st_set 3 (x := ((at_ : Nat) : Int)) (ev_eq (ev_bin (o_mod (y := 1 + c % 4) (by omega)) (ev_bin (o_div divK) (ev_var 0) ev_int) (ev_var 2)) hat) ?_ sc_law_names.nd
  refine st_set 4 (x := 1 + 2 * (c / 16 % 6)) (ev_bin o_add ev_int (ev_bin (o_mul mulL) ev_int (ev_bin (o_mod (by decide)) (ev_bin (o_div divK) (ev_var 0) ev_int) ev_int))) ?_ sc_law_names.nd
  refine st_set 5 (x := (rng 0 (1 + c % 4).toNat).map fun k => capI (c / 96 + 5 * k)) (ev_eq (ev_join (xs := (rng 0 (1 + c % 4).toNat).map fun k => ([capI (c / 96 + 5 * k)] : Tx)) (ev_str "") (ev_of_en (en_lc (α := Int) (β := Tx) (own := [("_law_k", 7)]) (f := fun k => ([capI (c / 96 + 5 * k)] : Tx)) (src_range T.b_range (ev_var 2) (by omega) (by omega)) (tg_name 7) (fun _ _ _ _ _ => pgn 7 sc_law_names.nd) (fun k hk _ _ _ _ _ => ev_ixS (x := capTx) (ev_var 1) (ev_bin (o_mod (by decide)) (ev_bin o_add (ev_bin (o_div divK) (ev_var 0) ev_int) (ev_bin (o_mul mulL) ev_int (ev_var 7))) ev_int) (cap_atI _) (sl_small (by decide))) sc_law_names.nd (ok := bk_law_names (by decide +kernel)) (hz := by rw [rng_len]; exact sl_small (by omega)))) (by
      show _ + _ * 0 ≤ _
      rw [sum_ones, rng_len]; omega)) (by
      show joinL [] _ = _
      rw [show (rng 0 (1 + c % 4).toNat).map (fun k => ([capI (c / 96 + 5 * k)] : Tx)) = ((rng 0 (1 + c % 4).toNat).map fun k => capI (c / 96 + 5 * k)).map fun c => ([c] : Tx) by rw [List.map_map]; rfl, joinL_one])) ?_ sc_law_names.nd
  have hbl : ((rng 0 (1 + c % 4).toNat).map fun k => capI (c / 96 + 5 * k)).length = (1 + c % 4).toNat := by rw [List.length_map, rng_len]
  have hbc : ∀ x ∈ (rng 0 (1 + c % 4).toNat).map (fun k => capI (c / 96 + 5 * k)), x ∈ capTx := fun x hx => by
    obtain ⟨k, _, rfl⟩ := List.mem_map.mp hx
    exact capI_mem _
  generalize (rng 0 (1 + c % 4).toNat).map (fun k => capI (c / 96 + 5 * k)) = bs at hbl hbc
  refine st_setN 6 (xs := ([] : List Tx)) (en_nil Tx) (fun ad => ?_) sc_law_names.nd
  refine st_for (fun m Γ' => ∃ ns : List Tx, Le Γ' [vl c, vl capTx, vl (1 + c % 4), vl ((at_ : Nat) : Int), vl (1 + 2 * (c / 16 % 6)), vl bs, .lst repTx ad ns, .no, .no] ∧ ns.length = m ∧ ∀ n ∈ ns, isName n = true) (src_range (n := 4) T.b_range ev_int (by decide) (by decide)) (tg_name 7) ⟨[], Le.refl, rfl, fun _ z => (List.not_mem_nil z).elim⟩ (fun m x Γ' hm hP => ?_) (fun Γ' hP => ?_) (pgn 7 sc_law_names.nd)
  · obtain ⟨ns, le, hl, hin⟩ := hP
    obtain ⟨hm4, rfl⟩ := rng_get0 hm
    refine st_le (Le.set le 7 _) ?_
    refine st_set 8 (x := ([capI (c / 2496 + (1 + 2 * (c / 16 % 6)) * (m : Int))] : Tx)) (ev_ixS (x := capTx) (ev_var 1) (ev_bin (o_mod (by decide)) (ev_bin o_add (ev_bin (o_div divK) (ev_var 0) ev_int) (ev_bin (o_mul (x := 1 + 2 * (c / 16 % 6)) (y := (m : Int)) (.inl ⟨by omega, by omega⟩)) (ev_var 4) (ev_var 7))) ev_int) (cap_atI _) (sl_small (by decide))) ?_ sc_law_names.nd
    have hcm := capI_mem (c / 2496 + (1 + 2 * (c / 16 % 6)) * (m : Int))
    generalize capI (c / 2496 + (1 + 2 * (c / 16 % 6)) * (m : Int)) = d at hcm
    refine st_append 6 (ad := ad) (xs := ns) (x := bs.take at_ ++ [d] ++ bs.drop (at_ + 1)) (ev_bin (o_addS (x := bs.take at_ ++ [d]) (y := bs.drop (at_ + 1)) (sl_small (by simp; omega))) (ev_bin (o_addS (x := bs.take at_) (y := [d]) (sl_small (by simp; omega))) (ev_eq (ev_sliceS (x := bs) (o1 := none) (o2 := some ((at_ : Nat) : Int)) (ev_var 5) trivial (ev_var 3) (sl_small (by omega))) (cutL_to at_)) (ev_var 8)) (ev_eq (ev_sliceS (x := bs) (o1 := some ((at_ + 1 : Nat) : Int)) (o2 := none) (ev_var 5) (ev_eq (ev_bin o_add (ev_var 3) ev_int) (by omega)) trivial (sl_small (by omega))) (cutL_from (at_ + 1)))) (st_nil ?_) (lt_line (by omega))
    refine ⟨ns ++ [bs.take at_ ++ [d] ++ bs.drop (at_ + 1)], le_cons (le_cons (le_cons (le_cons (le_cons (le_cons (le_cons (le_no (le_no le_nil)))))))), by rw [List.length_append, hl]; rfl, fun n hn => ?_⟩
    rcases List.mem_append.mp hn with hn | hn
    · exact hin n hn
    · rw [List.mem_singleton.mp hn]
      refine name_of (by rw [List.length_append, List.length_append, List.length_singleton]; omega) (by rw [List.length_append, List.length_append, List.length_singleton, List.length_take, List.length_drop]; omega) fun y hy => ?_
      rcases List.mem_append.mp hy with hy | hy
      · rcases List.mem_append.mp hy with hy | hy
        · exact hbc y (List.mem_of_mem_take hy)
        · rw [List.mem_singleton.mp hy]; exact hcm
      · exact hbc y (List.mem_of_mem_drop hy)
  · obtain ⟨ns, le, hl, hin⟩ := hP
    refine st_le le ?_
    exact st_retL 6 (hq ns hl hin)
theorem ok_law_rule (T : Txt K mg) : Has P w K mg base 6 "_law_rule" ["_law_rule_here"] rule32S := by
  refine Has.of T.f_law_rule sc_law_rule (fun A Q R ⟨q, e, _⟩ => by rw [e]; rfl) fun f cdv A outer s0 H E hr Γ Q R ⟨q, e, hg, hq⟩ => ?_
  subst e
  have hs := RuleD.good_short hg
  obtain ⟨r⟩ := q
  cases r with
  | cell n c s =>
    refine st_if (k := true) (et_eq (et_cmp o_eq (ev_qk (q := ⟨.cell n c s⟩) (ev_var 0) ev_int) ev_int) rfl) (fun _ => ?_) (fun h => nomatch h)
    exact st_retV (ev_good (mkx_cell T hr (ea_cons (x := n) (ev_qn (q := ⟨.cell n c s⟩) (ev_var 0) ev_int) (ea_cons (x := c) (ev_qc (q := ⟨.cell n c s⟩) (ev_var 0) ev_int) (ea_cons (x := s) (ev_q3 (q := ⟨.cell n c s⟩) (ev_var 0) ev_int rfl) ea_nil))) hs.1 hs.2) hg) hq
  | beside n c a b =>
    refine st_if (k := false) (et_eq (et_cmp o_eq (ev_qk (q := ⟨.beside n c a b⟩) (ev_var 0) ev_int) ev_int) rfl) (fun h => nomatch h) (fun _ => st_nil ?_)
    refine st_if (k := true) (et_eq (et_cmp o_eq (ev_qk (q := ⟨.beside n c a b⟩) (ev_var 0) ev_int) ev_int) rfl) (fun _ => ?_) (fun h => nomatch h)
    exact st_retV (ev_good (mkx_beside T hr (ea_cons (x := n) (ev_qn (q := ⟨.beside n c a b⟩) (ev_var 0) ev_int) (ea_cons (x := c) (ev_qc (q := ⟨.beside n c a b⟩) (ev_var 0) ev_int) (ea_cons (x := a) (ev_q3 (q := ⟨.beside n c a b⟩) (ev_var 0) ev_int rfl) (ea_cons (x := b) (ev_q4 (q := ⟨.beside n c a b⟩) (ev_var 0) ev_int rfl) ea_nil)))) hs.1 hs.2.1 hs.2.2) hg) hq
  | above n c a b =>
    refine st_if (k := false) (et_eq (et_cmp o_eq (ev_qk (q := ⟨.above n c a b⟩) (ev_var 0) ev_int) ev_int) rfl) (fun h => nomatch h) (fun _ => st_nil ?_)
    refine st_if (k := false) (et_eq (et_cmp o_eq (ev_qk (q := ⟨.above n c a b⟩) (ev_var 0) ev_int) ev_int) rfl) (fun h => nomatch h) (fun _ => st_nil ?_)
    refine st_if (k := true) (et_eq (et_cmp o_eq (ev_qk (q := ⟨.above n c a b⟩) (ev_var 0) ev_int) ev_int) rfl) (fun _ => ?_) (fun h => nomatch h)
    exact st_retV (ev_good (mkx_above T hr (ea_cons (x := n) (ev_qn (q := ⟨.above n c a b⟩) (ev_var 0) ev_int) (ea_cons (x := c) (ev_qc (q := ⟨.above n c a b⟩) (ev_var 0) ev_int) (ea_cons (x := a) (ev_q3 (q := ⟨.above n c a b⟩) (ev_var 0) ev_int rfl) (ea_cons (x := b) (ev_q4 (q := ⟨.above n c a b⟩) (ev_var 0) ev_int rfl) ea_nil)))) hs.1 hs.2.1 hs.2.2) hg) hq
  | turn n c a t =>
    refine st_if (k := false) (et_eq (et_cmp o_eq (ev_qk (q := ⟨.turn n c a t⟩) (ev_var 0) ev_int) ev_int) rfl) (fun h => nomatch h) (fun _ => st_nil ?_)
    refine st_if (k := false) (et_eq (et_cmp o_eq (ev_qk (q := ⟨.turn n c a t⟩) (ev_var 0) ev_int) ev_int) rfl) (fun h => nomatch h) (fun _ => st_nil ?_)
    refine st_if (k := false) (et_eq (et_cmp o_eq (ev_qk (q := ⟨.turn n c a t⟩) (ev_var 0) ev_int) ev_int) rfl) (fun h => nomatch h) (fun _ => st_nil ?_)
    exact st_retV (ev_good (mkx_turn T hr (ea_cons (x := n) (ev_qn (q := ⟨.turn n c a t⟩) (ev_var 0) ev_int) (ea_cons (x := c) (ev_qc (q := ⟨.turn n c a t⟩) (ev_var 0) ev_int) (ea_cons (x := a) (ev_q3 (q := ⟨.turn n c a t⟩) (ev_var 0) ev_int rfl) (ea_cons (x := t) (ev_q4 (q := ⟨.turn n c a t⟩) (ev_var 0) ev_int rfl) ea_nil)))) hs.1 hs.2) hg) hq
theorem ok_law_grammar (T : Txt K mg) : Has P w K mg base 8 "_law_grammar" ["_law_signs_here", "_law_start", "_law_rules"] gram32S := by
  refine Has.of T.f_law_grammar sc_law_grammar (fun A Q R ⟨signs, st, rules, e, _⟩ => by rw [e]; rfl) fun f cdv A outer s0 H E hr Γ Q R ⟨signs, st, rules, e, l1, l2, l3, hg, hw, hq⟩ => ?_
  subst e
  exact st_retV (ev_mkG T hr (ea_cons (ev_var 0) (ea_cons (ev_var 1) (ea_cons (x := rules.map RowQ.r) (ev_of_en (en_lc (α := RowQ) (β := RuleD) (own := [("_law_rule_here", 3)]) (f := RowQ.r) (src_list (ev_var 2)) (tg_name 3) (fun _ _ _ _ _ => pgn 3 sc_law_grammar.nd)
    (fun q hq' _ _ _ _ _ => ev_call (x := q.r) (ok_law_rule T) (hr.mono (by decide)) (ea_cons (ev_var 3) ea_nil) fun P R h => ⟨q, rfl, hg q hq', h⟩) sc_law_grammar.nd (ok := bk_law_grammar (by decide +kernel)) (hz := sl_small (by omega)))) ea_nil))) (fun r hr' => by obtain ⟨q, hq', rfl⟩ := List.mem_map.mp hr'; exact hg q hq') hw (by omega) (by omega) (by rw [List.length_map]; omega)) hq
theorem ok_law_drawn (T : Txt K mg) : Has P w K mg base 1 "_law_drawn" ["_law_cell_here", "_law_signs_here", "_law_names_here"] drawn39S := by
  refine Has.of (k := 0) T.f_law_drawn sc_law_drawn (fun A Q R ⟨c, signs, names, e, _⟩ => by rw [e]; rfl) fun f cdv A outer s0 H E hr Γ Q R ⟨c, signs, names, e, hsg, hn4, hnm, hq⟩ => ?_
  subst e
  have pick : ∀ z : Int, ∃ n, atI names (z % 4) = some n ∧ n ∈ names := fun z => list_atI (Int.emod_nonneg _ (by decide)) (by have := Int.emod_lt_of_pos z (by decide : (0 : Int) < 4); omega)
  obtain ⟨n0, a0, i0⟩ := pick (c / 4)
  obtain ⟨n1, a1, i1⟩ := pick (c / 144)
  obtain ⟨n2, a2, i2⟩ := pick (c / 576)
  have hsl := signsOk_len hsg
  have k1 := Int.emod_nonneg (c / 16) (by decide : (9 : Int) ≠ 0)
  have k2 := Int.emod_lt_of_pos (c / 16) (by decide : (0 : Int) < 9)
  have ck : costOk (1 + c / 16 % 9) = true := by unfold costOk; rw [decide_eq_true (by omega), decide_eq_true (by omega)]; rfl
  refine st_set 3 (x := c % 4) (ev_bin (o_mod (by decide)) (ev_var 0) ev_int) ?_ sc_law_drawn.nd
  refine st_set 4 (x := n0) (ev_ixL (xs := names) (ev_var 2) (ev_bin (o_mod (by decide)) (ev_bin (o_div divK) (ev_var 0) ev_int) ev_int) a0) ?_ sc_law_drawn.nd
  refine st_set 5 (x := 1 + c / 16 % 9) (ev_bin o_add ev_int (ev_bin (o_mod (by decide)) (ev_bin (o_div divK) (ev_var 0) ev_int) ev_int)) ?_ sc_law_drawn.nd
  refine st_set 6 (x := n1) (ev_ixL (xs := names) (ev_var 2) (ev_bin (o_mod (by decide)) (ev_bin (o_div divK) (ev_var 0) ev_int) ev_int) a1) ?_ sc_law_drawn.nd
  refine st_set 7 (x := c / 576) (ev_bin (o_div divK) (ev_var 0) ev_int) ?_ sc_law_drawn.nd
  generalize c / 576 = rest at a2
  have g0 := hnm _ i0
  have g1 := hnm _ i1
  have g2 := hnm _ i2
  generalize 1 + c / 16 % 9 = kc at ck
  have m1 := Int.emod_nonneg c (by decide : (4 : Int) ≠ 0)
  have m2 := Int.emod_lt_of_pos c (by decide : (0 : Int) < 4)
  generalize c % 4 = kd at m1 m2
  have hss : 1 ≤ signs.length ∧ signs.length ≤ 4 ∧ ∀ d ∈ signs, d ∈ smallTx := by
    unfold signsOk at hsg
    simp only [Bool.and_eq_true, decide_eq_true_eq, List.all_eq_true] at hsg
    exact ⟨hsg.1.1, hsg.1.2, fun d hd => hsg.2.2 d hd⟩
  obtain ⟨hs1, hs4, hsm⟩ := hss
  refine st_if (k := decide (kd = 0)) (et_cmp o_eq (ev_var 3) ev_int) (fun h => ?_) (fun h => st_nil ?_)
  · have h := of_decide_eq_true h
    subst h
    have sm := Int.emod_nonneg rest (by omega : (signs.length : Int) ≠ 0)
    have sm2 := Int.emod_lt_of_pos rest (by omega : (0 : Int) < signs.length)
    obtain ⟨d, ad, id⟩ := list_atI (xs := signs) sm sm2
    have gd : signOk [d] = true := by unfold signOk; rw [decide_eq_true (by rfl), List.all_cons, decide_eq_true (hsm d id)]; rfl
    refine st_retV (ev_u (α := RowQ) (x := ⟨.cell n0 kc [d]⟩) (ev_ot (ev_tupH (es_cons (ev_d (α := Tx) (ev_var 4)) (es_cons (ev_d (α := Int) (ev_var 5)) (es_cons (ev_d (α := Int) (x := 0) ev_int) (es_cons (ev_d (α := Tx) (x := [d]) (ev_ixS (ev_var 1) (ev_bin (o_mod (y := (signs.length : Int)) (by omega)) (ev_var 7) (ev_lenS T.b_len (ev_var 1) (sl_small (by omega)))) ad (sl_small (by omega)))) (es_cons (ev_d (α := Tx) (ev_str "")) es_nil)))))))) (hq _ ⟨?_, ⟨d, id, rfl⟩, fun n hn => ?_⟩)
    · simp only [RuleD.good, gd, ck, g0]; rfl
    · simp only [RuleD.name, RuleD.parts, List.mem_cons, List.not_mem_nil, or_false] at hn
      rw [hn]; exact i0
  have h0 := of_decide_eq_false h
  refine st_if (k := decide (kd = 3)) (et_cmp o_eq (ev_var 3) ev_int) (fun h => ?_) (fun h => st_nil ?_)
  · have h := of_decide_eq_true h
    subst h
    have t1 := Int.emod_nonneg rest (by decide : (8 : Int) ≠ 0)
    have t2 := Int.emod_lt_of_pos rest (by decide : (0 : Int) < 8)
    refine st_retV (ev_u (α := RowQ) (x := ⟨.turn n0 kc n1 (rest % 8)⟩) (ev_ot (ev_tupH (es_cons (ev_d (α := Tx) (ev_var 4)) (es_cons (ev_d (α := Int) (ev_var 5)) (es_cons (ev_d (α := Int) (x := 3) ev_int) (es_cons (ev_d (α := Tx) (x := n1) (ev_var 6)) (es_cons (ev_d (α := Int) (x := rest % 8) (ev_bin (o_mod (by decide)) (ev_var 7) ev_int)) es_nil)))))))) (hq _ ⟨?_, trivial, fun n hn => ?_⟩)
    · simp only [RuleD.good, ck, g0, g1]
      rw [decide_eq_true (by omega), decide_eq_true (by omega)]; rfl
    · simp only [RuleD.name, RuleD.parts, List.mem_cons, List.not_mem_nil, or_false] at hn
      rcases hn with rfl | rfl
      · exact i0
      · exact i1
  have h3 := of_decide_eq_false h
  have ga : ∀ r, r = RuleD.beside n0 kc n1 n2 ∨ r = RuleD.above n0 kc n1 n2 → DrawnQ names signs r := fun r hr => ⟨by rcases hr with rfl | rfl <;> simp only [RuleD.good, ck, g0, g1, g2] <;> rfl, by rcases hr with rfl | rfl <;> trivial, fun n hn => by
    rcases hr with rfl | rfl <;> simp only [RuleD.name, RuleD.parts, List.mem_cons, List.not_mem_nil, or_false] at hn <;> rcases hn with rfl | rfl | rfl <;> assumption⟩
  rcases (by omega : kd = 1 ∨ kd = 2) with rfl | rfl
  · exact st_retV (ev_u (α := RowQ) (x := ⟨.beside n0 kc n1 n2⟩) (ev_ot (ev_tupH (es_cons (ev_d (α := Tx) (ev_var 4)) (es_cons (ev_d (α := Int) (ev_var 5)) (es_cons (ev_d (α := Int) (x := 1) (ev_var 3)) (es_cons (ev_d (α := Tx) (x := n1) (ev_var 6)) (es_cons (ev_d (α := Tx) (x := n2) (ev_ixL (xs := names) (ev_var 2) (ev_bin (o_mod (by decide)) (ev_var 7) ev_int) a2)) es_nil)))))))) (hq ⟨_⟩ (ga _ (.inl rfl)))
  · exact st_retV (ev_u (α := RowQ) (x := ⟨.above n0 kc n1 n2⟩) (ev_ot (ev_tupH (es_cons (ev_d (α := Tx) (ev_var 4)) (es_cons (ev_d (α := Int) (ev_var 5)) (es_cons (ev_d (α := Int) (x := 2) (ev_var 3)) (es_cons (ev_d (α := Tx) (x := n1) (ev_var 6)) (es_cons (ev_d (α := Tx) (x := n2) (ev_ixL (xs := names) (ev_var 2) (ev_bin (o_mod (by decide)) (ev_var 7) ev_int) a2)) es_nil)))))))) (hq ⟨_⟩ (ga _ (.inr rfl)))
end
local macro_rules | `(tactic| walk_at "le") => `(tactic| repeat (first | exact le_nil | refine le_cons ?_ | refine le_no ?_))
noncomputable abbrev Cos := List (KNm × Int)
noncomputable def lookN (l : Cos) (n : Tx) (p : Pic) : Option Int := look l ((n, Tup.mk p) : KNm)
noncomputable def cutL1 (q : RowQ) (p : Pic) (j : Nat) : Pic := if q.r.kdI = 1 then p.map (fun x => x.take j) else p.take j
noncomputable def cutL2 (q : RowQ) (p : Pic) (j : Nat) : Pic := if q.r.kdI = 1 then p.map (fun x => x.drop j) else p.drop j
noncomputable def pairAt (l : Cos) (q : RowQ) (a b : Tx) (p : Pic) (j : Nat) : Option Int := match lookN l a (cutL1 q p j), lookN l b (cutL2 q p j) with
  | some u, some v => some (q.r.cost + u + v)
  | _, _ => none
noncomputable def minO : Option Int → Option Int → Option Int
  | o, none => o
  | none, some c => some c
  | some b, some c => some (if c < b then c else b)
noncomputable def pairF (l : Cos) (q : RowQ) (a b : Tx) (p : Pic) : Nat → Option Int
  | 0 => none
  | m + 1 => minO (pairF l q a b p m) (pairAt l q a b p (m + 1))
noncomputable def manyP (q : RowQ) (p : Pic) : Nat := if q.r.kdI = 1 then (p.headD []).length else p.length
noncomputable def pair40S (w : World) : Tw.Spec := fun A P _ => ∃ (l : Cos) (q : RowQ) (a b : Tx) (p : Pic) (r c : Nat), A = [vl (NDic.mk w l), vl q, vl p] ∧ Pk p r c ∧ q.r.tl2 = [.s a, .s b] ∧ P (rv (pairF l q a b p (manyP q p - 1)))
theorem ev_min40 {X : Cx} {Γ : List Slot} {a b : Expr} {pos p : Pos} {x y : Int} (hm : X.mg "min" = none) (ha : EV X Γ a x) (hb : EV X Γ b y) (hc : autoParam (X.calm = true) aRfl) (hg : autoParam (Gl X "min") aRfl)
    (hs : autoParam (starEach [a, b] X.env = (false, eval a X.env) :: starEach [b] X.env) aStar) (hs2 : autoParam (starEach [b] X.env = (false, eval b X.env) :: starEach [] X.env) aStar) (hpl : autoParam ((backTo pos (starEach [b] X.env)).any (·.1) = false) aPl) :
    EV X Γ (.Call (.Name "min" p) [a, b] [] pos) (if y < x then y else x) := fun B F H σ Q L q =>
  WE.of (pe_callB (call_min2 hc) hg hm (by decide +kernel) (pa_cons peW (pa_cons peW pa_nil hs2) hs) (by decide) (by decide) hs hpl) (ha B F H σ _ L fun v F1 H1 e1 r1 => hb B F1 H1 σ _ (L.step e1) fun u F2 H2 e2 r2 => by
    obtain rfl : v = .int x := r1
    obtain rfl : u = .int y := r2
    exact ⟨x, y, rfl, q _ F2 H2 (e1.trans e2) (by split <;> rfl)⟩)
theorem hu9 {X : Cx} {k : Nat} (hr : Room k X.A) : X.A.units + 9 < cLine := by have := hr.units; omega
section
variable {P : Program} {w : World} {K : PySem.W.Frag} {mg : Str → Option Value} {base : Heap}
theorem ok_law_pair (T : Txt K mg) : Has P w K mg base 1 "_law_pair" ["_law_costs_here", "_law_rule_here", "_law_picture"] (pair40S w) := by
  refine Has.of (k := 0) T.f_law_pair sc_law_pair (fun A Q R ⟨l, q, a, b, p, r, c, e, _⟩ => by rw [e]; rfl) fun f cdv A outer s0 H E hr Γ Q R ⟨l, q, a, b, p, r, c, e, hp, hab, hq⟩ => ?_
  subst e
  have hlen := hp.len
  have r6 := hp.r6
  have r0 := hp.r0
  have c6 := hp.c6
  have c0 := hp.c0
  obtain ⟨x0, pr, hp0, hx0⟩ := hp.hd
  have hx0' : x0.length = c := hx0
  have e3 : q.r.tl2[0]? = some (.s a) := by rw [hab]; rfl
  have e4 : q.r.tl2[1]? = some (.s b) := by rw [hab]; rfl
  have hh : p.headD [] = x0 := by rw [hp0]; rfl
  refine st_set 3 (x := (none : Option Int)) (ev_nonO (i := repInt)) ?_ sc_law_pair.nd
  refine st_set 4 (x := (p.length : Int)) (ev_len (xs := p) T.b_len (ev_var 2)) ?_ sc_law_pair.nd
  suffices main : Tw.ST (cxOf (L2.CX P w) P w K mg base N_law_pair "_law_pair" (defScope s_law_pair) f cdv A outer s0 H E).nox ((defBody s_law_pair).drop 3) [vl (NDic.mk w l), vl q, vl p, vl (none : Option Int), vl ((manyP q p : Nat) : Int), .no, .no, .no, .no, .no] (fin Q) by
    by_cases hk : q.r.kdI = 1
    · refine st_if (k := true) (et_eq (et_cmp o_eq (ev_qk (q := q) (ev_var 1) ev_int) ev_int) (decide_eq_true hk)) (fun _ => ?_) (fun h => nomatch h)
      have em : manyP q p = x0.length := by unfold manyP; rw [if_pos hk, hh]
      refine st_set 4 (x := (x0.length : Int)) (ev_lenS (x := x0) T.b_len (ev_ixL (xs := p) (ev_var 2) ev_int (atI_nat (j := 0) (by rw [hp0]; rfl))) (sl_small (by omega))) (st_nil ?_) sc_law_pair.nd
      rw [em] at main
      exact st_le (by walk_at "le") main
    · refine st_if (k := false) (et_eq (et_cmp o_eq (ev_qk (q := q) (ev_var 1) ev_int) ev_int) (decide_eq_false hk)) (fun h => nomatch h) (fun _ => st_nil ?_)
      have em : manyP q p = p.length := by unfold manyP; rw [if_neg hk]
      rw [em] at main
      exact st_le (by walk_at "le") main
  have hm6 : manyP q p ≤ 6 := by
    unfold manyP
    split
    · rw [hh]; omega
    · omega
  have hm1 : 1 ≤ manyP q p := by
    unfold manyP
    split
    · rw [hh]; omega
    · omega
  obtain ⟨M, eM⟩ : ∃ M, M = manyP q p := ⟨_, rfl⟩
  rw [← eM] at hq hm6 hm1 ⊢
  refine st_for (xs := rng 1 ((M : Int) - 1).toNat) (fun m Γ' => Le Γ' [vl (NDic.mk w l), vl q, vl p, vl (pairF l q a b p m), vl ((M : Nat) : Int), .no, .no, .no, .no, .no]) (src_range2 (m := 1) (n := (M : Int)) T.b_range ev_int (ev_var (x := (M : Int)) 4) (by omega)) (tg_name 5) (by walk_at "le") (fun m x Γ' hm le => ?_) (fun Γ' le => ?_) (pgn 5 sc_law_pair.nd)
  rotate_left
  · rw [rng_len, show ((M : Int) - 1).toNat = M - 1 by omega] at le
    refine st_le le ?_
    exact st_retV (ev_var 3) hq
  have hmx : x = ((m + 1 : Nat) : Int) ∧ m < M - 1 := by
    unfold rng at hm
    rw [List.getElem?_map] at hm
    have hlt : m < ((M : Int) - 1).toNat := by
      apply Classical.byContradiction
      intro z
      rw [List.getElem?_eq_none (by rw [List.length_range]; omega)] at hm
      cases hm
    rw [List.getElem?_range hlt] at hm
    have := Option.some.inj hm
    constructor
    · have h2 : (1 : Int) + (m : Int) = x := this
      omega
    · omega
  obtain ⟨rfl, hmM⟩ := hmx
  refine st_le (Le.set le 5 _) ?_
  refine st_le (Γ' := [vl (NDic.mk w l), vl q, vl p, vl (pairF l q a b p m), vl ((M : Nat) : Int), vl ((m + 1 : Nat) : Int), .no, .no, .no, .no]) (by walk_at "le") ?_
  refine st_set 6 (x := ((a, Tup.mk (p.take (m + 1))) : KNm)) (ev_pair (ev_q3 (q := q) (x := a) (ev_var 1) ev_int e3) (ev_tupL (xs := p.take (m + 1)) T.b_tuple (ev_of_en (en_eq (en_sliceL (xs := p) (o1 := none) (o2 := some ((m + 1 : Nat) : Int)) (ev_var 2) trivial (ev_var 5)) (cutL_to (m + 1)))))) ?_ sc_law_pair.nd
  refine st_set 7 (x := ((b, Tup.mk (p.drop (m + 1))) : KNm)) (ev_pair (ev_q4 (q := q) (x := b) (ev_var 1) ev_int e4) (ev_tupL (xs := p.drop (m + 1)) T.b_tuple (ev_of_en (en_eq (en_sliceL (xs := p) (o1 := some ((m + 1 : Nat) : Int)) (o2 := none) (ev_var 2) (ev_var 5) trivial) (cutL_from (m + 1)))))) ?_ sc_law_pair.nd
  by_cases hk : q.r.kdI = 1
  · have c1 : cutL1 q p (m + 1) = p.map fun x => x.take (m + 1) := if_pos hk
    have c2 : cutL2 q p (m + 1) = p.map fun x => x.drop (m + 1) := if_pos hk
    refine st_if (k := true) (et_eq (et_cmp o_eq (ev_qk (q := q) (ev_var 1) ev_int) ev_int) (decide_eq_true hk)) (fun _ => ?_) (fun h => nomatch h)
    refine st_set 6 (x := ((a, Tup.mk (p.map fun x => x.take (m + 1))) : KNm)) (ev_pair (ev_q3 (q := q) (x := a) (ev_var 1) ev_int e3) (ev_tupL (xs := p.map fun x => x.take (m + 1)) T.b_tuple (ev_of_en (en_lc (α := Tx) (β := Tx) (own := [("_law_row", 9)]) (f := fun x => x.take (m + 1)) (src_list (xs := p) (ev_var 2)) (tg_name 9) (fun _ _ _ _ _ => pgn 9 sc_law_pair.nd) (fun x hx _ _ _ _ _ => ev_eq (ev_sliceS (x := x) (o1 := none) (o2 := some ((m + 1 : Nat) : Int)) (ev_var 9) (by exact trivial) (by exact ev_var 5) (sl_small (by rw [hp.row x hx]; omega))) (cutL_to (m + 1))) sc_law_pair.nd (ok := bk_law_pair (by decide +kernel)) (hz := sl_small (by omega)))))) ?_ sc_law_pair.nd
    refine st_set 7 (x := ((b, Tup.mk (p.map fun x => x.drop (m + 1))) : KNm)) (ev_pair (ev_q4 (q := q) (x := b) (ev_var 1) ev_int e4) (ev_tupL (xs := p.map fun x => x.drop (m + 1)) T.b_tuple (ev_of_en (en_lc (α := Tx) (β := Tx) (own := [("_law_row", 9)]) (f := fun x => x.drop (m + 1)) (src_list (xs := p) (ev_var 2)) (tg_name 9) (fun _ _ _ _ _ => pgn 9 sc_law_pair.nd) (fun x hx _ _ _ _ _ => ev_eq (ev_sliceS (x := x) (o1 := some ((m + 1 : Nat) : Int)) (o2 := none) (ev_var 9) (by exact ev_var 5) (by exact trivial) (sl_small (by rw [hp.row x hx]; omega))) (cutL_from (m + 1))) sc_law_pair.nd (ok := bk_law_pair (by decide +kernel)) (hz := sl_small (by omega)))))) (st_nil ?_) sc_law_pair.nd
    cases hl1 : look l ((a, Tup.mk (p.map fun x => x.take (m + 1))) : KNm) with
    | none =>
      have ep : pairF l q a b p (m + 1) = pairF l q a b p m := by
        show minO (pairF l q a b p m) (pairAt l q a b p (m + 1)) = _
        unfold pairAt lookN
        rw [c1, hl1]
        cases pairF l q a b p m <;> rfl
      refine st_if (k := false) (et_eq (et_and (k := false) (m := false) (et_eq (et_cmp (o_inN (d := NDic.mk w l) (hu9 hr) rfl) (ev_var 6) (ev_var 0)) (by rw [hl1]; rfl)) fun h => nomatch h) rfl) (fun h => nomatch h) (fun _ => st_nil (st_nil ?_))
      rw [ep]
      walk_at "le"
    | some u =>
      cases hl2 : look l ((b, Tup.mk (p.map fun x => x.drop (m + 1))) : KNm) with
      | none =>
        have ep : pairF l q a b p (m + 1) = pairF l q a b p m := by
          show minO (pairF l q a b p m) (pairAt l q a b p (m + 1)) = _
          unfold pairAt lookN
          rw [c1, hl1, c2, hl2]
          cases pairF l q a b p m <;> rfl
        refine st_if (k := false) (et_eq (et_and (k := true) (m := false) (et_eq (et_cmp (o_inN (d := NDic.mk w l) (hu9 hr) rfl) (ev_var 6) (ev_var 0)) (by rw [hl1]; rfl)) fun _ => et_eq (et_cmp (o_inN (d := NDic.mk w l) (hu9 hr) rfl) (ev_var 7) (ev_var 0)) (by rw [hl2]; rfl)) rfl) (fun h => nomatch h) (fun _ => st_nil (st_nil ?_))
        rw [ep]
        walk_at "le"
      | some v =>
        have ep : pairF l q a b p (m + 1) = minO (pairF l q a b p m) (some (q.r.cost + u + v)) := by
          show minO (pairF l q a b p m) (pairAt l q a b p (m + 1)) = _
          unfold pairAt lookN
          rw [c1, hl1, c2, hl2]
        refine st_if (k := true) (et_eq (et_and (k := true) (m := true) (et_eq (et_cmp (o_inN (d := NDic.mk w l) (hu9 hr) rfl) (ev_var 6) (ev_var 0)) (by rw [hl1]; rfl)) fun _ => et_eq (et_cmp (o_inN (d := NDic.mk w l) (hu9 hr) rfl) (ev_var 7) (ev_var 0)) (by rw [hl2]; rfl)) rfl) (fun _ => ?_) (fun h => nomatch h)
        refine st_set 8 (x := q.r.cost + u + v) (ev_bin o_add (ev_bin o_add (ev_qc (q := q) (ev_var 1) ev_int) (ev_dgetN (d := NDic.mk w l) (hu9 hr) rfl (ev_var 0) (ev_var 6) hl1)) (ev_dgetN (d := NDic.mk w l) (hu9 hr) rfl (ev_var 0) (ev_var 7) hl2)) ?_ sc_law_pair.nd
        rw [ep]
        cases hb : pairF l q a b p m with
        | none =>
          refine st_set 3 (x := some (q.r.cost + u + v)) (ev_ifExp (k := true) (x := some (q.r.cost + u + v)) (y := (none : Option Int)) (et_cmp (o_isO (x := (none : Option Int))) (ev_var 3) ev_non) (fun _ => ev_some (ev_var 8)) (fun h => nomatch h)) (st_nil (st_nil ?_)) sc_law_pair.nd
          walk_at "le"
        | some bst =>
          refine st_set 3 (x := some (if q.r.cost + u + v < bst then q.r.cost + u + v else bst)) (ev_ifExp (k := false) (x := (none : Option Int)) (y := some (if q.r.cost + u + v < bst then q.r.cost + u + v else bst)) (et_cmp (o_isO (x := some bst)) (ev_var 3) ev_non) (fun h => nomatch h) (fun _ => ev_some (ev_min40 T.b_min (ev_un (x := bst) (ev_var 3)) (ev_var 8)))) (st_nil (st_nil ?_)) sc_law_pair.nd
          walk_at "le"
  · have c1 : cutL1 q p (m + 1) = p.take (m + 1) := if_neg hk
    have c2 : cutL2 q p (m + 1) = p.drop (m + 1) := if_neg hk
    refine st_if (k := false) (et_eq (et_cmp o_eq (ev_qk (q := q) (ev_var 1) ev_int) ev_int) (decide_eq_false hk)) (fun h => nomatch h) (fun _ => st_nil ?_)
    cases hl1 : look l ((a, Tup.mk (p.take (m + 1))) : KNm) with
    | none =>
      have ep : pairF l q a b p (m + 1) = pairF l q a b p m := by
        show minO (pairF l q a b p m) (pairAt l q a b p (m + 1)) = _
        unfold pairAt lookN
        rw [c1, hl1]
        cases pairF l q a b p m <;> rfl
      refine st_if (k := false) (et_eq (et_and (k := false) (m := false) (et_eq (et_cmp (o_inN (d := NDic.mk w l) (hu9 hr) rfl) (ev_var 6) (ev_var 0)) (by rw [hl1]; rfl)) fun h => nomatch h) rfl) (fun h => nomatch h) (fun _ => st_nil (st_nil ?_))
      rw [ep]
      walk_at "le"
    | some u =>
      cases hl2 : look l ((b, Tup.mk (p.drop (m + 1))) : KNm) with
      | none =>
        have ep : pairF l q a b p (m + 1) = pairF l q a b p m := by
          show minO (pairF l q a b p m) (pairAt l q a b p (m + 1)) = _
          unfold pairAt lookN
          rw [c1, hl1, c2, hl2]
          cases pairF l q a b p m <;> rfl
        refine st_if (k := false) (et_eq (et_and (k := true) (m := false) (et_eq (et_cmp (o_inN (d := NDic.mk w l) (hu9 hr) rfl) (ev_var 6) (ev_var 0)) (by rw [hl1]; rfl)) fun _ => et_eq (et_cmp (o_inN (d := NDic.mk w l) (hu9 hr) rfl) (ev_var 7) (ev_var 0)) (by rw [hl2]; rfl)) rfl) (fun h => nomatch h) (fun _ => st_nil (st_nil ?_))
        rw [ep]
        walk_at "le"
      | some v =>
        have ep : pairF l q a b p (m + 1) = minO (pairF l q a b p m) (some (q.r.cost + u + v)) := by
          show minO (pairF l q a b p m) (pairAt l q a b p (m + 1)) = _
          unfold pairAt lookN
          rw [c1, hl1, c2, hl2]
        refine st_if (k := true) (et_eq (et_and (k := true) (m := true) (et_eq (et_cmp (o_inN (d := NDic.mk w l) (hu9 hr) rfl) (ev_var 6) (ev_var 0)) (by rw [hl1]; rfl)) fun _ => et_eq (et_cmp (o_inN (d := NDic.mk w l) (hu9 hr) rfl) (ev_var 7) (ev_var 0)) (by rw [hl2]; rfl)) rfl) (fun _ => ?_) (fun h => nomatch h)
        refine st_set 8 (x := q.r.cost + u + v) (ev_bin o_add (ev_bin o_add (ev_qc (q := q) (ev_var 1) ev_int) (ev_dgetN (d := NDic.mk w l) (hu9 hr) rfl (ev_var 0) (ev_var 6) hl1)) (ev_dgetN (d := NDic.mk w l) (hu9 hr) rfl (ev_var 0) (ev_var 7) hl2)) ?_ sc_law_pair.nd
        rw [ep]
        cases hb : pairF l q a b p m with
        | none =>
          refine st_set 3 (x := some (q.r.cost + u + v)) (ev_ifExp (k := true) (x := some (q.r.cost + u + v)) (y := (none : Option Int)) (et_cmp (o_isO (x := (none : Option Int))) (ev_var 3) ev_non) (fun _ => ev_some (ev_var 8)) (fun h => nomatch h)) (st_nil (st_nil ?_)) sc_law_pair.nd
          walk_at "le"
        | some bst =>
          refine st_set 3 (x := some (if q.r.cost + u + v < bst then q.r.cost + u + v else bst)) (ev_ifExp (k := false) (x := (none : Option Int)) (y := some (if q.r.cost + u + v < bst then q.r.cost + u + v else bst)) (et_cmp (o_isO (x := some bst)) (ev_var 3) ev_non) (fun h => nomatch h) (fun _ => ev_some (ev_min40 T.b_min (ev_un (x := bst) (ev_var 3)) (ev_var 8)))) (st_nil (st_nil ?_)) sc_law_pair.nd
          walk_at "le"
end
local macro_rules | `(tactic| walk_at "le") => `(tactic| repeat (first | exact le_nil | refine le_cons ?_ | refine le_no ?_))
noncomputable def comesF (l : Cos) (q : RowQ) (p : Pic) : Option Int := match q.r with
  | .cell _ c s => if p = [s] then some c else none
  | .beside _ _ a b => pairF l q a b p (manyP q p - 1)
  | .above _ _ a b => pairF l q a b p (manyP q p - 1)
  | .turn _ c a t => (lookN l a (turned p (backN t.toNat))).map fun v => c + v
noncomputable def comes40S (w : World) : Tw.Spec := fun A P _ => ∃ (l : Cos) (q : RowQ) (p : Pic) (r c : Nat), A = [vl (NDic.mk w l), vl q, vl p] ∧ Pk p r c ∧ q.r.good = true ∧ (∀ y ∈ p, TxOk y) ∧ P (rv (comesF l q p))
noncomputable def turnedQS : Tw.Spec := fun A P _ => ∃ (p : Pic) (t : Int), A = [vl p, vl t] ∧ PicIn p ∧ 0 ≤ t ∧ P (rv (turned p t.toNat))
theorem sign_ok40 {s : Tx} (h : signOk s = true) : TxOk s := by
  unfold signOk at h
  simp only [Bool.and_eq_true, decide_eq_true_eq, List.all_eq_true] at h
  intro k hk
  have := small_lt k (h.2 k hk)
  omega
section
variable {P : Program} {w : World} {K : PySem.W.Frag} {mg : Str → Option Value} {base : Heap}
theorem ok_law_turned (T : Txt K mg) : Has P w K mg base 1 "_law_turned" ["_law_picture", "_law_t"] turnedQS := by
  refine Has.of (k := 0) T.f_law_turned sc_law_turned (fun A Q R ⟨p, t, e, _⟩ => by rw [e]; rfl) fun f cdv A outer s H E hr Γ Q R ⟨p, t, e, ⟨r, c, hp⟩, ht, hq⟩ => ?_
  subst e
  have hc6 := hp.c6
  have hr6 := hp.r6
  refine st_ifJ (ι := Pic) (fun q => [vl q, vl t, .no, .no, .no, .no]) (fun q => q = if 4 ≤ t.toNat then mirrored p else p) (k := decide (3 < t)) (et_cmp o_gt (ev_var 1) ev_int) (fun h => ?_) (fun h => st_nil ⟨p, Le.refl, ?_⟩) (fun q eq => ?_)
  · have h := of_decide_eq_true h
    refine st_setLc 0 (α := Tx) (β := Tx) (j := repTx) (own := [("_law_row", 5)]) (f := List.reverse) (src_list (ev_var 0)) (tg_name 5) (fun _ _ _ _ _ => pgn 5 sc_law_turned.nd) (fun x hx _ _ _ _ _ => ev_joinRev T.b_reversed (ev_str "") (ev_var 5) (by rw [hp.row x hx]; omega)) sc_law_turned.nd (by rw [hp.len]; exact sl6 hr6) (fun ad => ?_) (ok := bk_law_turned (by decide +kernel))
    refine st_freeze 0 frozL (st_nil ⟨mirrored p, Le.refl, ?_⟩)
    rw [if_pos (by omega)]
  · have h := of_decide_eq_false h
    rw [if_neg (by omega)]
  obtain ⟨r', c', hq'⟩ : ∃ r' c', Pk q r' c' := by
    rw [eq]; split
    · exact ⟨_, _, hp.mirrored⟩
    · exact ⟨_, _, hp⟩
  refine st_for (xs := rng 0 (t % 4).toNat) (fun k Γ => Le Γ [vl (quarters k q), vl t, .no, .no, .no, .no]) (src_range T.b_range (ev_bin (o_mod (by decide)) (ev_var 1) ev_int) (by omega) (by omega)) (tg_name 2) Le.refl (fun k x Γ' hk le => ?_) (fun Γ' le => ?_) (pgn 2 sc_law_turned.nd)
  · refine st_le (Le.set le 2 _) ?_
    have hk4 := hq'.quarters k
    generalize (if k % 2 = 0 then r' else c') = r2 at hk4
    generalize (if k % 2 = 0 then c' else r') = c2 at hk4
    generalize hqk : quarters k q = z at hk4
    have hz6 := hk4.c6
    have hzr := hk4.r6
    obtain ⟨h0, h1⟩ := hk4.head
    refine st_setN 3 (en_nil Tx) (fun ad => ?_) sc_law_turned.nd
    refine st_for (xs := rng 0 ((z.headD []).length : Int).toNat) (fun m Γ => Le Γ [vl z, vl t, .no, ls ad ((quarter z).take m), .no, .no]) (src_range T.b_range (ev_lenS T.b_len (ev_ixL (ev_var (x := z) 0) ev_int h0) (sl6 (by rw [h1]; exact hk4.c6))) (by omega) (by rw [h1]; omega)) (tg_name 4) (by rw [List.take_zero]; exact le_cons (le_cons (le_no (le_cons (le_no (le_no le_nil)))))) (fun m x Γ' hm le => ?_) (fun Γ' le => ?_) (pgn 4 sc_law_turned.nd)
    · obtain ⟨hlt, rfl⟩ := rng_get0 hm
      refine st_le (Le.set le 4 _) ?_
      have hkc : m < (z.headD []).length := by simpa using hlt
      have hk6 : m < 6 := by omega
      refine st_append 3 (ev_join (ev_str "") (ev_of_en (en_lc (α := Tx) (β := Tx) (own := [("_law_row", 5)]) (f := fun row => [row.getD m 0]) (src_rev T.b_reversed (ev_var 0)) (tg_name 5) (fun _ _ _ _ _ => pgn 5 sc_law_turned.nd)
        (fun x hx _ _ _ _ _ => ev_ixS (ev_var 5) (ev_var 4) ?_ ?_) sc_law_turned.nd (ok := bk_law_turned (by decide +kernel)) (hz := ?_))) ?_) (st_nil ?_) ?_
      · have := hk4.row x (by simpa using hx)
        rw [List.getD_eq_getElem?_getD, List.getElem?_eq_getElem (by omega)]
        exact atI_nat (List.getElem?_eq_getElem (by omega))
      · rw [hk4.row x (by simpa using hx)]; exact sl6 hk4.c6
      · rw [List.length_reverse, hk4.len]; exact sl6 hk4.r6
      · show _ + _ * 0 ≤ _
        rw [sum_ones, List.length_reverse, hk4.len]
        omega
      · have e1 : (quarter z)[m]? = some (z.reverse.map fun row => row.getD m 0) := by
          unfold quarter
          rw [List.getElem?_map, List.getElem?_range hkc]; rfl
        show Le _ _
        rw [take_snoc e1, ← joinOnes]
        exact le_cons (le_cons (le_no (le_cons (le_no (le_no le_nil)))))
      · rw [List.length_take]
        exact lt_line (by omega)
    · rw [rng_len, List.take_of_length_le (by unfold quarter; rw [List.length_map, List.length_range]; omega)] at le
      refine st_le le ?_
      refine st_freeze 3 frozL ?_
      refine st_set 0 (x := quarter z) (ev_var 3) (st_nil ?_) sc_law_turned.nd
      rw [← hqk]
      exact le_cons (le_cons (le_no (le_no (le_no (le_no le_nil)))))
  · refine st_le le ?_
    rw [rng_len]
    refine st_retV (ev_of_en (en_list T.b_list (ev_var 0))) ?_
    unfold turned at hq
    rw [← eq, show t.toNat % 4 = (t % 4).toNat by omega] at hq
    exact hq
theorem ok_law_comes (T : Txt K mg) : Has P w K mg base 4 "_law_comes" ["_law_costs_here", "_law_rule_here", "_law_picture"] (comes40S w) := by
  refine Has.of (k := 3) T.f_law_comes sc_law_comes (fun A Q R ⟨l, q, p, r, c, e, _⟩ => by rw [e]; rfl) fun f cdv A outer s0 H E hr Γ Q R ⟨l, q, p, r, c, e, hp, hg, hok, hq⟩ => ?_
  subst e
  obtain ⟨rl⟩ := q
  cases rl with
  | cell n co s =>
    have hs : TxOk s := by
      simp only [RuleD.good, Bool.and_eq_true] at hg
      exact sign_ok40 hg.1
    refine st_if (k := true) (et_eq (et_cmp o_eq (ev_qk (q := ⟨.cell n co s⟩) (ev_var 1) ev_int) ev_int) rfl) (fun _ => ?_) (fun h => nomatch h)
    have e : comesF l ⟨.cell n co s⟩ p = if p = [s] then some co else none := rfl
    rw [e] at hq
    by_cases h : p = [s]
    · rw [if_pos h] at hq
      exact st_retV (ev_ifExp (k := true) (x := some co) (y := (none : Option Int)) (et_eq (et_cmp (o_eqD (x := p) (y := [s]) hr hok (fun y hy => by rw [List.mem_singleton.mp hy]; exact hs)) (ev_var 2) (ev_of_en (en_lst (es_cons (ev_q3 (q := ⟨.cell n co s⟩) (x := s) (ev_var 1) ev_int rfl) es_nil)))) (decide_eq_true h)) (fun _ => ev_some (ev_qc (q := ⟨.cell n co s⟩) (ev_var 1) ev_int)) (fun h => nomatch h)) hq
    · rw [if_neg h] at hq
      exact st_retV (ev_ifExp (k := false) (x := some co) (y := (none : Option Int)) (et_eq (et_cmp (o_eqD (x := p) (y := [s]) hr hok (fun y hy => by rw [List.mem_singleton.mp hy]; exact hs)) (ev_var 2) (ev_of_en (en_lst (es_cons (ev_q3 (q := ⟨.cell n co s⟩) (x := s) (ev_var 1) ev_int rfl) es_nil)))) (decide_eq_false h)) (fun h => nomatch h) (fun _ => ev_non)) hq
  | beside n co a b =>
    refine st_if (k := false) (et_eq (et_cmp o_eq (ev_qk (q := ⟨.beside n co a b⟩) (ev_var 1) ev_int) ev_int) rfl) (fun h => nomatch h) (fun _ => st_nil ?_)
    refine st_if (k := true) (et_eq (et_cmp o_ne (ev_qk (q := ⟨.beside n co a b⟩) (ev_var 1) ev_int) ev_int) rfl) (fun _ => ?_) (fun h => nomatch h)
    exact st_retV (ev_call (x := pairF l ⟨.beside n co a b⟩ a b p (manyP ⟨.beside n co a b⟩ p - 1)) (ok_law_pair T) (hr.mono (by decide)) (ea_cons (x := NDic.mk w l) (ev_var 0) (ea_cons (x := (⟨.beside n co a b⟩ : RowQ)) (ev_var 1) (ea_cons (x := p) (ev_var 2) ea_nil))) fun P' R' h => ⟨l, ⟨.beside n co a b⟩, a, b, p, r, c, rfl, hp, rfl, h⟩) hq
  | above n co a b =>
    refine st_if (k := false) (et_eq (et_cmp o_eq (ev_qk (q := ⟨.above n co a b⟩) (ev_var 1) ev_int) ev_int) rfl) (fun h => nomatch h) (fun _ => st_nil ?_)
    refine st_if (k := true) (et_eq (et_cmp o_ne (ev_qk (q := ⟨.above n co a b⟩) (ev_var 1) ev_int) ev_int) rfl) (fun _ => ?_) (fun h => nomatch h)
    exact st_retV (ev_call (x := pairF l ⟨.above n co a b⟩ a b p (manyP ⟨.above n co a b⟩ p - 1)) (ok_law_pair T) (hr.mono (by decide)) (ea_cons (x := NDic.mk w l) (ev_var 0) (ea_cons (x := (⟨.above n co a b⟩ : RowQ)) (ev_var 1) (ea_cons (x := p) (ev_var 2) ea_nil))) fun P' R' h => ⟨l, ⟨.above n co a b⟩, a, b, p, r, c, rfl, hp, rfl, h⟩) hq
  | turn n co a t =>
    have ht : 0 ≤ t ∧ t ≤ 7 := good_turn hg
    refine st_if (k := false) (et_eq (et_cmp o_eq (ev_qk (q := ⟨.turn n co a t⟩) (ev_var 1) ev_int) ev_int) rfl) (fun h => nomatch h) (fun _ => st_nil ?_)
    refine st_if (k := false) (et_eq (et_cmp o_ne (ev_qk (q := ⟨.turn n co a t⟩) (ev_var 1) ev_int) ev_int) rfl) (fun h => nomatch h) (fun _ => st_nil ?_)
    refine st_set 3 (x := t) (ev_q4 (q := ⟨.turn n co a t⟩) (x := t) (ev_var 1) ev_int rfl) ?_ sc_law_comes.nd
    refine st_ifJ (ι := Int) (fun u => [vl (NDic.mk w l), vl (⟨.turn n co a t⟩ : RowQ), vl p, vl u, .no]) (fun u => u = ((backN t.toNat : Nat) : Int)) (k := decide (t < 4)) (et_cmp o_lt (ev_var (x := t) 3) ev_int) (fun h => ?_) (fun h => st_nil ⟨t, Le.refl, ?_⟩) (fun u eu => ?_)
    · have h := of_decide_eq_true h
      refine st_set 3 (x := (4 - t) % 4) (ev_bin (o_mod (by decide)) (ev_bin o_sub ev_int (ev_var (x := t) 3)) ev_int) (st_nil ⟨(4 - t) % 4, Le.refl, ?_⟩) sc_law_comes.nd
      unfold backN
      rw [if_neg (by omega)]
      omega
    · have h := of_decide_eq_false h
      unfold backN
      rw [if_pos (by omega)]
      omega
    subst eu
    have e3 : (RowQ.mk (.turn n co a t)).r.tl2[0]? = some (.s a) := rfl
    refine st_set 4 (x := ((a, Tup.mk (turned p (backN t.toNat))) : KNm)) (ev_pair (ev_q3 (q := ⟨.turn n co a t⟩) (x := a) (ev_var 1) ev_int e3) (ev_tupL (xs := turned p (backN t.toNat)) T.b_tuple (ev_call (x := turned p (backN t.toNat)) (ok_law_turned T) (hr.mono (by decide)) (ea_cons (x := p) (ev_var 2) (ea_cons (x := ((backN t.toNat : Nat) : Int)) (ev_var 3) ea_nil)) fun P' R' h => ⟨p, ((backN t.toNat : Nat) : Int), rfl, ⟨r, c, hp⟩, by omega, h⟩))) ?_ sc_law_comes.nd
    have e : comesF l ⟨.turn n co a t⟩ p = (lookN l a (turned p (backN t.toNat))).map fun v => co + v := rfl
    rw [e] at hq
    unfold lookN at hq
    cases hl : look l ((a, Tup.mk (turned p (backN t.toNat))) : KNm) with
    | none =>
      rw [hl] at hq
      exact st_retV (ev_ifExp (k := false) (x := (none : Option Int)) (y := (none : Option Int)) (et_eq (et_cmp (o_inN (d := NDic.mk w l) (hu9 hr) rfl) (ev_var 4) (ev_var 0)) (by rw [hl]; rfl)) (fun h => nomatch h) (fun _ => ev_non)) hq
    | some v =>
      rw [hl] at hq
      exact st_retV (ev_ifExp (k := true) (x := some (co + v)) (y := (none : Option Int)) (et_eq (et_cmp (o_inN (d := NDic.mk w l) (hu9 hr) rfl) (ev_var 4) (ev_var 0)) (by rw [hl]; rfl)) (fun _ => ev_some (ev_bin o_add (ev_qc (q := ⟨.turn n co a t⟩) (ev_var 1) ev_int) (ev_dgetN (d := NDic.mk w l) (hu9 hr) rfl (ev_var 0) (ev_var 4) hl))) (fun h => nomatch h)) hq
end
local macro_rules | `(tactic| walk_at "le") => `(tactic| repeat (first | exact le_nil | refine le_cons ?_ | refine le_no ?_))
noncomputable def textsL (x : Tx) : Nat → List Tx
  | 0 => [[]]
  | m + 1 => (textsL x m).flatMap fun t => x.map fun ch => t ++ [ch]
theorem textsL_mem {x : Tx} : ∀ {m : Nat} {t : Tx}, t ∈ textsL x m ↔ t.length = m ∧ ∀ k ∈ t, k ∈ x
  | 0, t => by
    unfold textsL
    rw [List.mem_singleton]
    constructor
    · rintro rfl; exact ⟨rfl, fun _ h => (List.not_mem_nil h).elim⟩
    · rintro ⟨h, _⟩; exact List.length_eq_zero_iff.mp h
  | m + 1, t => by
    unfold textsL
    rw [List.mem_flatMap]
    constructor
    · rintro ⟨u, hu, h⟩
      obtain ⟨ch, hch, rfl⟩ := List.mem_map.mp h
      obtain ⟨h1, h2⟩ := textsL_mem.mp hu
      refine ⟨by rw [List.length_append, h1]; rfl, fun k hk => ?_⟩
      rcases List.mem_append.mp hk with hk | hk
      · exact h2 k hk
      · rw [List.mem_singleton.mp hk]; exact hch
    · rintro ⟨h1, h2⟩
      have hne : t ≠ [] := fun e => by rw [e] at h1; cases h1
      have e := List.dropLast_concat_getLast hne
      refine ⟨t.dropLast, textsL_mem.mpr ⟨by rw [List.length_dropLast]; omega, fun k hk => h2 k ((List.dropLast_sublist t).subset hk)⟩, List.mem_map.mpr ⟨t.getLast hne, h2 _ (List.getLast_mem hne), e⟩⟩
theorem flat_lenZ {A B : Type} {f : A → List B} {n : Nat} : ∀ l : List A, (∀ a ∈ l, (f a).length = n) → (l.flatMap f).length = l.length * n
  | [], _ => (Nat.zero_mul _).symm
  | a :: l, h => by
    rw [List.flatMap_cons, List.length_append, h a (List.mem_cons_self ..), flat_lenZ l fun b hb => h b (List.mem_cons_of_mem _ hb), List.length_cons, Nat.succ_mul]
    omega
theorem textsL_len {x : Tx} : ∀ m, (textsL x m).length = x.length ^ m
  | 0 => rfl
  | m + 1 => by
    unfold textsL
    rw [flat_lenZ (n := x.length) _ fun t _ => List.length_map .., textsL_len m, Nat.pow_succ]
theorem nodup_flat {A B : Type} {f : A → List B} : ∀ {l : List A}, l.Nodup → (∀ a ∈ l, (f a).Nodup) → (∀ a ∈ l, ∀ b ∈ l, ∀ x, x ∈ f a → x ∈ f b → a = b) → (l.flatMap f).Nodup
  | [], _, _, _ => List.nodup_nil
  | a :: l, h1, h2, h3 => by
    rw [List.nodup_cons] at h1
    rw [List.flatMap_cons, List.nodup_append]
    refine ⟨h2 a (List.mem_cons_self ..), nodup_flat h1.2 (fun b hb => h2 b (List.mem_cons_of_mem _ hb)) (fun b hb c hc => h3 b (List.mem_cons_of_mem _ hb) c (List.mem_cons_of_mem _ hc)), fun y hy z hz e => ?_⟩
    subst e
    obtain ⟨b, hb, hyb⟩ := List.mem_flatMap.mp hz
    have := h3 a (List.mem_cons_self ..) b (List.mem_cons_of_mem _ hb) y hy hyb
    rw [this] at h1
    exact h1.1 hb
theorem textsL_nodup {x : Tx} (hx : x.Nodup) : ∀ m, (textsL x m).Nodup
  | 0 => by unfold textsL; simp
  | m + 1 => by
    unfold textsL
    have h1 : ∀ t ∈ textsL x m, (x.map fun ch => t ++ [ch]).Nodup := fun t _ => List.pairwise_map.mpr (hx.imp fun {a b} hne e => hne (List.cons.inj (List.append_cancel_left e)).1)
    refine nodup_flat (textsL_nodup hx m) h1 fun a _ b _ y hy hz => ?_
    · obtain ⟨c, _, rfl⟩ := List.mem_map.mp hy
      obtain ⟨d, _, e⟩ := List.mem_map.mp hz
      exact (List.append_inj_left' e rfl).symm
noncomputable def rowsOf (c : Nat) : Nat → Tx → Pic
  | 0, _ => []
  | r + 1, t => t.take c :: rowsOf c r (t.drop c)
theorem rowsOf_flat {c : Nat} : ∀ (r : Nat) (t : Tx), t.length = r * c → (rowsOf c r t).flatten = t
  | 0, t, h => by
    rw [Nat.zero_mul] at h
    rw [List.length_eq_zero_iff.mp h]
    rfl
  | r + 1, t, h => by
    rw [Nat.succ_mul] at h
    unfold rowsOf
    rw [List.flatten_cons, rowsOf_flat r (t.drop c) (by rw [List.length_drop]; omega), List.take_append_drop]
theorem rowsOf_of {c : Nat} : ∀ (p : Pic), (∀ y ∈ p, y.length = c) → rowsOf c p.length p.flatten = p
  | [], _ => rfl
  | y :: p, h => by
    have hy := h y (List.mem_cons_self ..)
    rw [List.length_cons, List.flatten_cons]
    unfold rowsOf
    rw [← hy, List.take_left, List.drop_left, hy, rowsOf_of p fun z hz => h z (List.mem_cons_of_mem _ hz)]
theorem rowsOf_pk {c : Nat} : ∀ (r : Nat) (t : Tx), t.length = r * c → (rowsOf c r t).length = r ∧ ∀ y ∈ rowsOf c r t, y.length = c ∧ ∀ k ∈ y, k ∈ t
  | 0, t, h => ⟨rfl, fun _ hy => (List.not_mem_nil hy).elim⟩
  | r + 1, t, h => by
    rw [Nat.succ_mul] at h
    obtain ⟨h1, h2⟩ := rowsOf_pk (c := c) r (t.drop c) (by rw [List.length_drop]; omega)
    unfold rowsOf
    refine ⟨by rw [List.length_cons, h1], fun y hy => ?_⟩
    rcases List.mem_cons.mp hy with rfl | hy
    · exact ⟨by rw [List.length_take]; omega, fun k hk => List.mem_of_mem_take hk⟩
    · exact ⟨(h2 y hy).1, fun k hk => List.mem_of_mem_drop ((h2 y hy).2 k hk)⟩
theorem rowsOf_range {c : Nat} : ∀ (r : Nat) (t : Tx), (List.range r).map (fun i => (t.drop (i * c)).take c) = rowsOf c r t
  | 0, t => rfl
  | r + 1, t => by
    rw [List.range_succ_eq_map, List.map_cons, List.map_map]
    unfold rowsOf
    rw [← rowsOf_range r (t.drop c)]
    congr 1
    · rw [Nat.zero_mul, List.drop_zero]
    · refine List.map_congr_left fun i _ => ?_
      show List.take c (List.drop ((i + 1) * c) t) = _
      rw [List.drop_drop, Nat.succ_mul, Nat.add_comm]
noncomputable def allP (x : Tx) (r c : Nat) : List Pic := (textsL x (r * c)).map (rowsOf c r)
theorem allP_mem {x : Tx} {r c : Nat} (r1 : 1 ≤ r) (r6 : r ≤ 6) (c1 : 1 ≤ c) (c6 : c ≤ 6) {p : Pic} : p ∈ allP x r c ↔ Pk p r c ∧ InSg x p := by
  unfold allP
  rw [List.mem_map]
  constructor
  · rintro ⟨t, ht, rfl⟩
    obtain ⟨h1, h2⟩ := textsL_mem.mp ht
    obtain ⟨h3, h4⟩ := rowsOf_pk r t h1
    exact ⟨⟨h3, fun y hy => (h4 y hy).1, r1, c1, r6, c6⟩, fun y hy k hk => h2 k ((h4 y hy).2 k hk)⟩
  · rintro ⟨hp, hs⟩
    refine ⟨p.flatten, textsL_mem.mpr ⟨?_, fun k hk => ?_⟩, ?_⟩
    · have : ∀ q : Pic, (∀ y ∈ q, y.length = c) → q.flatten.length = q.length * c := fun q => by
        induction q with
        | nil => intro _; exact (Nat.zero_mul _).symm
        | cons y q ih =>
          intro h
          rw [List.flatten_cons, List.length_append, h y (List.mem_cons_self ..), ih fun z hz => h z (List.mem_cons_of_mem _ hz), List.length_cons, Nat.succ_mul]
          omega
      rw [this p hp.row, hp.len]
    · obtain ⟨y, hy, hk⟩ := List.mem_flatten.mp hk
      exact hs y hy k hk
    · have := rowsOf_of p hp.row
      rwa [hp.len] at this
theorem allP_nodup {x : Tx} (hx : x.Nodup) {r c : Nat} : (allP x r c).Nodup := by
  unfold allP
  refine List.pairwise_map.mpr ((textsL_nodup hx _).imp_of_mem fun {a b} ha hb hne e => hne ?_)
  have h1 := rowsOf_flat r a (textsL_mem.mp ha).1
  have h2 := rowsOf_flat r b (textsL_mem.mp hb).1
  rw [← h1, ← h2, e]
noncomputable def all55S : Tw.Spec := fun A P _ => ∃ (x : Tx) (r c : Nat), A = [vl x, vl (r : Int), vl (c : Int)] ∧ 1 ≤ x.length ∧ x.length ≤ 4 ∧ 1 ≤ r ∧ r ≤ 6 ∧ 1 ≤ c ∧ c ≤ 6 ∧ x.length ^ (r * c) ≤ 1000 ∧ P (rn (allP x r c))
section
variable {P : Program} {w : World} {K : PySem.W.Frag} {mg : Str → Option Value} {base : Heap}
theorem ok_law_all (T : Txt K mg) : Has P w K mg base 1 "_law_all" ["_law_signs_here", "_law_rows", "_law_columns"] all55S := by
  refine Has.of (k := 0) T.f_law_all sc_law_all (fun A Q R ⟨x, r, c, e, _⟩ => by rw [e]; rfl) fun f cdv A outer s0 H E hr Γ Q R ⟨x, r, c, e, x1, x4, r1, r6, c1, c6, h1000, hq⟩ => ?_
  subst e
  have hrc : ((r : Int) * (c : Int)) = ((r * c : Nat) : Int) := (Int.natCast_mul r c).symm
  have hrc36 : r * c ≤ 36 := Nat.mul_le_mul r6 c6
  have hlen : ∀ m, m ≤ r * c → (textsL x m).length ≤ 1000 := fun m hm => by
    rw [textsL_len]
    exact Nat.le_trans (Nat.pow_le_pow_right x1 hm) h1000
  refine st_setN 3 (xs := [([] : Tx)]) (en_lst (es_cons (ev_str "") es_nil)) (fun ad => ?_) sc_law_all.nd
  refine st_freeze 3 frozL ?_
  refine st_for (xs := rng 0 ((r * c : Nat) : Int).toNat) (fun m Γ' => Le Γ' [vl x, vl (r : Int), vl (c : Int), vl (textsL x m), .no, .no, .no, .no, .no, .no]) (src_range T.b_range (ev_eq (ev_bin (o_mul (.inl ⟨by omega, by omega⟩)) (ev_var (x := (r : Int)) 1) (ev_var (x := (c : Int)) 2)) hrc) (by omega) (by omega)) (tg_name 4) (by walk_at "le") (fun m k Γ' hm le => ?_) (fun Γ' le => ?_) (pgn 4 sc_law_all.nd)
  · obtain ⟨hm1, _⟩ := rng_get0 hm
    have hm1 : m < r * c := by omega
    refine st_le (Le.set le 4 _) ?_
    refine st_setN 5 (xs := ([] : List Tx)) (en_nil Tx) (fun ad2 => ?_) sc_law_all.nd
    refine st_for (xs := textsL x m) (fun j Γ2 => Le Γ2 [vl x, vl (r : Int), vl (c : Int), vl (textsL x m), .no, .lst repTx ad2 (((textsL x m).take j).flatMap fun t => x.map fun ch => t ++ [ch]), .no, .no, .no, .no]) (src_list (ev_var 3)) (tg_name 6) (by walk_at "le") (fun j t Γ2 hj le2 => ?_) (fun Γ2 le2 => ?_) (pgn 6 sc_law_all.nd)
    · have htm := List.mem_of_getElem? hj
      obtain ⟨ht1, ht2⟩ := textsL_mem.mp htm
      have hjl := (List.getElem?_eq_some_iff.mp hj).1
      have h2 := hlen m (by omega)
      have h3 : ((((textsL x m).take j).flatMap fun t => x.map fun ch => t ++ [ch])).length = j * x.length := by
        rw [flat_lenZ (n := x.length) _ fun t _ => List.length_map .., List.length_take, Nat.min_eq_left (by omega)]
      have h4 : j * x.length + x.length ≤ 1000 := by
        have h5 := hlen (m + 1) (by omega)
        rw [textsL_len, Nat.pow_succ, ← textsL_len] at h5
        have h6 := Nat.mul_le_mul_right x.length (show j + 1 ≤ (textsL x m).length by omega)
        rw [Nat.succ_mul] at h6
        omega
      refine st_le (Le.set le2 6 _) ?_
      refine st_extend 5 (ad := ad2) (xs := ((textsL x m).take j).flatMap fun t => x.map fun ch => t ++ [ch]) (ys := x.map fun ch => t ++ [ch]) (en_eq (en_lc (α := Tx) (β := Tx) (own := [("_law_sign", 8)]) (f := fun s => t ++ s) (src_str (x := x) (ev_var 0)) (tg_name 8) (fun _ _ _ _ _ => pgn 8 sc_law_all.nd) (fun s hs _ _ _ _ _ => ev_bin (o_addS (sl_small (by
        obtain ⟨ch, _, rfl⟩ := List.mem_map.mp hs
        show t.length + 1 ≤ _
        omega))) (ev_var 6) (ev_var 8)) sc_law_all.nd (ok := bk_law_all (by decide +kernel)) (hz := by rw [List.length_map]; exact sl_small (by omega))) (by rw [List.map_map]; rfl)) (st_nil ?_) (by rw [List.length_map]; exact sl_small (by omega))
      have e : ((textsL x m).take (j + 1)).flatMap (fun t => x.map fun ch => t ++ [ch]) = (((textsL x m).take j).flatMap fun t => x.map fun ch => t ++ [ch]) ++ x.map fun ch => t ++ [ch] := by
        rw [List.take_add_one, hj, List.flatMap_append, Option.toList_some, List.flatMap_singleton]
      rw [e]
      walk_at "le"
    · rw [List.take_length] at le2
      refine st_le le2 ?_
      refine st_freeze 5 frozL ?_
      refine st_set 3 (x := textsL x (m + 1)) (ev_var 5) (st_nil ?_) sc_law_all.nd
      walk_at "le"
  · have e : (rng 0 ((r * c : Nat) : Int).toNat).length = r * c := by rw [rng_len]; omega
    rw [e] at le
    refine st_le le ?_
    have hl := hlen (r * c) (Nat.le_refl _)
    refine st_setN 7 (xs := ([] : List Pic)) (en_nil Pic) (fun ad => ?_) sc_law_all.nd
    refine st_for (xs := textsL x (r * c)) (fun j Γ2 => Le Γ2 [vl x, vl (r : Int), vl (c : Int), vl (textsL x (r * c)), .no, .no, .no, .lst repPic ad (((textsL x (r * c)).take j).map (rowsOf c r)), .no, .no]) (src_list (ev_var 3)) (tg_name 6) (by walk_at "le") (fun j t Γ2 hj le2 => ?_) (fun Γ2 le2 => ?_) (pgn 6 sc_law_all.nd)
    · have htm := List.mem_of_getElem? hj
      obtain ⟨ht1, ht2⟩ := textsL_mem.mp htm
      have hjl := (List.getElem?_eq_some_iff.mp hj).1
      refine st_le (Le.set le2 6 _) ?_
      refine st_append 7 (ad := ad) (xs := ((textsL x (r * c)).take j).map (rowsOf c r)) (x := rowsOf c r t) (ev_of_en (en_eq (en_lc (α := Int) (β := Tx) (own := [("_law_row", 9)]) (f := fun i => cutL t (some ((i.toNat * c : Nat) : Int)) (some ((i.toNat * c + c : Nat) : Int))) (src_range (n := (r : Int)) T.b_range (ev_var 1) (by omega) (by omega)) (tg_name 9) (fun _ _ _ _ _ => pgn 9 sc_law_all.nd) (fun i hi _ _ _ _ _ => by
        obtain ⟨i0, hi0, rfl⟩ := rng_mem hi
        have hi1 : i0 < r := by omega
        have e1 : (0 + (i0 : Int)) * (c : Int) = (((0 + (i0 : Int)).toNat * c : Nat) : Int) := by
          rw [Int.natCast_mul, Int.toNat_of_nonneg (by omega)]
        have hb : (0 + (i0 : Int)).toNat * c ≤ 36 := Nat.mul_le_mul (show (0 + (i0 : Int)).toNat ≤ 6 by omega) c6
        refine ev_sliceS (x := t) (o1 := some (((0 + (i0 : Int)).toNat * c : Nat) : Int)) (o2 := some (((0 + (i0 : Int)).toNat * c + c : Nat) : Int)) (ev_var 6) (ev_eq (ev_bin (o_mul (x := 0 + (i0 : Int)) (y := (c : Int)) (.inl ⟨by omega, by omega⟩)) (ev_var 9) (ev_var 2)) e1) (ev_eq (ev_bin o_add (ev_bin (o_mul (x := 0 + (i0 : Int)) (y := (c : Int)) (.inl ⟨by omega, by omega⟩)) (ev_var 9) (ev_var 2)) (ev_var 2)) (by rw [e1]; exact (Int.natCast_add ..).symm)) (sl_small (by omega))) sc_law_all.nd (ok := bk_law_all (by decide +kernel)) (hz := by rw [rng_len]; exact sl_small (by omega))) ?_)) (st_nil ?_) (lt_line (by rw [List.length_map, List.length_take]; omega))
      · rw [← rowsOf_range]
        unfold rng
        rw [List.map_map, show (r : Int).toNat = r by omega]
        refine List.map_congr_left fun i hi => ?_
        have hi := List.mem_range.mp hi
        have e1 : (0 + (i : Int)).toNat = i := by omega
        show cutL t (some (((0 + (i : Int)).toNat * c : Nat) : Int)) (some (((0 + (i : Int)).toNat * c + c : Nat) : Int)) = _
        rw [e1, cutL_nat (by
          have := Nat.mul_le_mul_right c (show i + 1 ≤ r by omega)
          rw [Nat.succ_mul] at this
          omega) (Nat.le_add_right ..), Nat.add_sub_cancel_left]
      · have e2 : ((textsL x (r * c)).take (j + 1)).map (rowsOf c r) = ((textsL x (r * c)).take j).map (rowsOf c r) ++ [rowsOf c r t] := by
          rw [List.take_add_one, hj, List.map_append]; rfl
        rw [e2]
        walk_at "le"
    · rw [List.take_length] at le2
      exact st_le le2 (st_retL 7 hq)
end
theorem Told.iff {g : GramD} {n : Tx} {r c : Nat} {L : List (Pic × Int)} (h : Told g n r c L) {p : Pic} (hp : Pk p r c) {v : Int} : (p, v) ∈ L ↔ Der g.rules p n v ∧ ∀ k, Der g.rules p n k → v ≤ k := by
  constructor
  · intro hv
    refine ⟨(h.pk _ hv).2.2, fun k d => ?_⟩
    obtain ⟨v', hle, hm⟩ := h.all p k hp d
    have e1 := look_of_mem h.nd hv
    have e2 := look_of_mem h.nd hm
    rw [e1] at e2
    have := Option.some.inj e2
    omega
  · rintro ⟨d, hm⟩
    obtain ⟨v', hle, hmem⟩ := h.all p v hp d
    have := hm v' (h.pk _ hmem).2.2
    obtain rfl : v' = v := by omega
    exact hmem
local macro_rules | `(tactic| walk_at "le") => `(tactic| repeat (first | exact le_nil | refine le_cons ?_ | refine le_no ?_))
noncomputable abbrev picD (p : Pic) : PyData := (IsD.d p : Dy).py
theorem picD_eq (p : Pic) : picD p = .list (Dy.pys (p.map Dy.s)) := by
  show Dy.py (.l (p.map Dy.s)) = _
  rw [Dy.py]
theorem sx_cps (x : Tx) : (sx x).cps.toList = x := rfl
theorem dataLt_pics : ∀ xs ys : List Tx, PySem.W.rowLt (Dy.pys (xs.map Dy.s)) (Dy.pys (ys.map Dy.s)) = decide (xs < ys)
  | [], [] => by
    have e : PySem.W.rowLt (Dy.pys (([] : List Tx).map Dy.s)) (Dy.pys (([] : List Tx).map Dy.s)) = false := PyProof.Rows.lex_irrefl _
    rw [e]; simp
  | [], y :: ys => by
    have e : PySem.W.rowLt (Dy.pys (([] : List Tx).map Dy.s)) (Dy.pys ((y :: ys).map Dy.s)) = true := by
      show PySem.W.rowLt (Dy.pys []) (Dy.pys (Dy.s y :: ys.map Dy.s)) = true
      rw [Dy.pys, Dy.pys]
      unfold PySem.W.rowLt
      rw [PySem.W.toks_all_cons]
      simp only [PySem.W.keyToksAll]
      rw [PyProof.Rows.lex_diff (O := PyProof.Rows.itemOrd) (by simp)]
      rfl
    rw [e]; simp
  | x :: xs, [] => by
    have e : PySem.W.rowLt (Dy.pys ((x :: xs).map Dy.s)) (Dy.pys (([] : List Tx).map Dy.s)) = false := by
      show PySem.W.rowLt (Dy.pys (Dy.s x :: xs.map Dy.s)) (Dy.pys []) = false
      rw [Dy.pys, Dy.pys]
      unfold PySem.W.rowLt
      rw [PySem.W.toks_all_cons]
      simp only [PySem.W.keyToksAll]
      rw [PyProof.Rows.lex_diff (O := PyProof.Rows.itemOrd) (by simp)]
      rfl
    rw [e]; simp
  | x :: xs, y :: ys => by
    have e : PySem.W.rowLt (Dy.pys ((x :: xs).map Dy.s)) (Dy.pys ((y :: ys).map Dy.s)) = if x = y then PySem.W.rowLt (Dy.pys (xs.map Dy.s)) (Dy.pys (ys.map Dy.s)) else decide (x < y) := by
      show PySem.W.rowLt (Dy.pys (Dy.s x :: xs.map Dy.s)) (Dy.pys (Dy.s y :: ys.map Dy.s)) = _
      rw [Dy.pys, Dy.pys, Dy.py, Dy.py]
      unfold PySem.W.rowLt
      rw [PySem.W.dataLt_cons (by simp [PySem.W.alike]), PySem.W.dataLt_str, sx_cps, sx_cps]
      by_cases h : x = y
      · rw [if_pos h, if_pos (by rw [h]; simp [PyData.eqv])]
      · rw [if_neg h, if_neg (fun z => h (by
          have z : (sx x == sx y) = true := by simpa [PyData.eqv] using z
          exact sx_inj (eq_of_beq z)))]
    rw [e]
    by_cases h : x = y
    · rw [if_pos h, dataLt_pics xs ys]
      simp [h, List.cons_lt_cons_iff]
    · rw [if_neg h]
      simp [h, List.cons_lt_cons_iff]
theorem picLt (p q : Pic) : PySem.W.dataLt (picD p) (picD q) = decide (p < q) := by
  rw [picD_eq, picD_eq, PySem.W.dataLt_list]
  exact dataLt_pics p q
theorem told_pair {g : GramD} {n : Tx} {r c : Nat} {L : List (Pic × Int)} (h : Told g n r c L) : L.Pairwise fun a b => a.1 < b.1 := by
  obtain ⟨L0, e⟩ := h.srt
  have ple : (PySem.W.dataLe false picPy : Pic × Int → Pic × Int → Bool) = fun a b => !decide (b.1 < a.1) := by
    rw [PySem.W.dataLe_eq]
    funext a b
    show (!PySem.W.dataLt (picD b.1) (picD a.1)) = _
    rw [picLt]
  have hs : L.Pairwise fun a b => ¬ b.1 < a.1 := by
    rw [e, ple]
    refine (List.pairwise_mergeSort (fun a b c h1 h2 => ?_) (fun a b => ?_) L0).imp fun {a b} h => by simpa using h
    · have h1 : ¬ b.1 < a.1 := by simpa using h1
      have h2 : ¬ c.1 < b.1 := by simpa using h2
      have h3 : ¬ c.1 < a.1 := fun h => absurd h (List.not_lt.mpr (List.le_trans (List.not_lt.mp h1) (List.not_lt.mp h2)))
      simpa using h3
    · by_cases hh : b.1 < a.1
      · have : ¬ a.1 < b.1 := List.lt_asymm hh
        simp [this]
      · simp [hh]
  have hn : L.Pairwise fun a b => a.1 ≠ b.1 := List.pairwise_map.mp h.nd
  refine (hs.and hn).imp fun {a b} h => ?_
  by_cases hh : a.1 < b.1
  · exact hh
  · exact absurd (List.le_antisymm (List.not_lt.mp h.1) (List.not_lt.mp hh)) h.2
theorem sorted_ext : ∀ {l l' : List (Pic × Int)}, (l.Pairwise fun a b => a.1 < b.1) → (l'.Pairwise fun a b => a.1 < b.1) → (∀ x, x ∈ l ↔ x ∈ l') → l = l'
  | [], [], _, _, _ => rfl
  | [], y :: l', _, _, h => (List.not_mem_nil ((h y).mpr (List.mem_cons_self ..))).elim
  | x :: l, [], _, _, h => (List.not_mem_nil ((h x).mp (List.mem_cons_self ..))).elim
  | x :: l, y :: l', h1, h2, h => by
    rw [List.pairwise_cons] at h1 h2
    have irr : ∀ p : Pic, ¬ p < p := fun p => List.lt_irrefl p
    have exy : x = y := by
      rcases List.mem_cons.mp ((h x).mp (List.mem_cons_self ..)) with e | hx
      · exact e
      · rcases List.mem_cons.mp ((h y).mpr (List.mem_cons_self ..)) with e | hy
        · exact e.symm
        · exact absurd (List.lt_trans (h2.1 x hx) (h1.1 y hy)) (irr _)
    subst exy
    congr 1
    refine sorted_ext h1.2 h2.2 fun z => ?_
    constructor
    · intro hz
      rcases List.mem_cons.mp ((h z).mp (List.mem_cons_of_mem _ hz)) with e | hz'
      · subst e; exact absurd (h1.1 z hz) (irr _)
      · exact hz'
    · intro hz
      rcases List.mem_cons.mp ((h z).mpr (List.mem_cons_of_mem _ hz)) with e | hz'
      · subst e; exact absurd (h2.1 z hz) (irr _)
      · exact hz'
section
open PySem.W PySem.Calls
noncomputable def rSLD (X : Cx) {β : Type} (k : β → PyData) : List V → Hp → VK → Prop := fun xs H Q => ∃ (p : Addr) (ws : List V) (bs : List β) (Rb : V → β → Prop), xs = [V.ref p] ∧ H p = some (.lst ws) ∧ Paired Rb ws bs ∧ (∀ v x, Rb v x → Dp X.K H v (k x)) ∧ AllAlike (bs.map k) ∧ Sortable (bs.map k) ∧ (∀ x ∈ bs, (k x).depth ≤ 64) ∧
  ∀ (vs : List V) (T : Addr), Paired Rb vs (bs.mergeSort (dataLe false k)) → H T = none → Q (.ref T) (upd H T (.lst vs))
theorem cr_sortLD {X : Cx} {β : Type} (k : β → PyData) (hu : X.A.units + 100 < cLine) : CallR X (.builtin "sorted") (rSLD X k) := by
  intro pins s σ H xs us Q I r h
  obtain ⟨p, ws, bs, Rb, rfl, hp, pb, hdp, hal, hsk, hdep, q⟩ := h
  rw [Vals.ref1 r]
  obtain ⟨hz, its, c, rv, hg⟩ := (show ObjOk X.prog X.w H s.heap p (.lst ws) from I.hok p _ hp)
  have hE := vals_each rv pb
  have hl1 : its.length = bs.length := hE.length
  have hl2 : ws.length = its.length := Paired.length rv
  have er : EachIs (fun v b => ∃ as, Reads s.heap v (k b) as) its bs := hE.mono fun u x ⟨v, rv, rb⟩ => Dp.reads I _ _ _ (hdp v x rb) rv
  refine sorted_data (PySem.IsL.isList hg) hE er hal hsk (by omega) (fun b hb => by have := hdep b hb; omega) fun out hol hout => ?_
  obtain ⟨ep, he'⟩ := PyProof.Rows.sortedAll_at s.heap its (List.toArray out)
  obtain ⟨vs', rv', pr⟩ := each_vals hout
  have hlen : vs'.length ≤ sizeLine := by
    rw [Paired.length rv', hol]; omega
  exact ⟨.ref _, upd H (s.heap.objs.size + 1) (.lst vs'), I.laid (t' := s.toks) (fun _ _ => PyProof.Rows.sortedAll_old) (Nat.le_succ _) ⟨hlen, out, ep, rv', he'⟩, rfl, q vs' _ pr (I.hok.fresh (Nat.le_succ _))⟩
end
section
variable {X : Cx} {Γ : List Slot} {α : Type} {i : Rep α} {pos p : Pos} {e : Expr}
theorem en_sortedA {k : Nat} {xs : List α} [h2 : IsD α] (hm : X.mg "sorted" = none) (hr : Room k X.A) (h : EV X Γ e xs) (hal : PySem.W.AllAlike (xs.map fun x => (h2.d x).py)) (hsk : PySem.W.Sortable (xs.map fun x => (h2.d x).py)) (hdp : ∀ x ∈ xs, ((h2.d x).py).depth ≤ 64)
    (hg : autoParam (Gl X "sorted") aRfl) (hs : autoParam (starEach [e] X.env = (false, eval e X.env) :: starEach [] X.env) aStar) (hpl : autoParam ((backTo pos (starEach [] X.env)).any (·.1) = false) aPl) :
    EN X Γ (.Call (.Name "sorted" p) [e] [] pos) (xs.mergeSort (PySem.W.dataLe false fun x => (h2.d x).py)) := fun B F H σ Q L q =>
  WE.of (pe_callB (cr_sortLD (fun x => (h2.d x).py) (by have := hr.un; omega)) hg hm (by decide +kernel) (pa_cons peW pa_nil hs) (by decide) (by decide) hs hpl) (h B F H σ _ L fun v F1 H1 e1 r1 => by
    obtain ⟨ad, vs, rfl, ha, pr⟩ := r1
    have s1 := (L.step e1).same
    refine ⟨ad, vs, xs, fun v x => i.rp X.K F1 v x, rfl, s1 _ _ ha, pr, fun v x rb => rpD_dp _ _ (rpD_mono s1 _ _ (h2.iff.mp rb)), hal, hsk, hdp, fun ws T pv hT => ?_⟩
    exact q T ws F1 _ (e1.trans (Ext.apart s1 hT)) (e1.hs.free hT) (s1.free hT) upd_same pv)
end
noncomputable abbrev pcD (x : Pic × Int) : PyData := (IsD.d x : Dy).py
theorem pcD_eq (x : Pic × Int) : pcD x = .tuple [picD x.1, .int x.2] := by
  show Dy.py (.t [IsD.d x.1, .i x.2]) = _
  rw [Dy.py, Dy.pys, Dy.pys, Dy.pys, Dy.py]
theorem pic_alike (p q : Pic) : PySem.W.alike (picD p) (picD q) = true := by
  rw [picD_eq, picD_eq, PySem.W.alike, alike_strs]
theorem pcD_alike (l : List (Pic × Int)) : PySem.W.AllAlike (l.map pcD) := PySem.W.AllAlike.of fun x y => by
  rw [pcD_eq, pcD_eq, PySem.W.alike, PySem.W.alikeAll, PySem.W.alikeAll, PySem.W.alikeAll, pic_alike]
  simp [PySem.W.alike]
theorem pcD_sortable (l : List (Pic × Int)) : PySem.W.Sortable (l.map pcD) := PySem.W.Sortable.tuples fun x => ⟨_, _, pcD_eq x⟩
theorem pcD_depth (x : Pic × Int) : (pcD x).depth ≤ 64 := by
  rw [pcD_eq, picD_eq]
  simp only [PyData.depth, PyData.depthAll, depth_strs]
  decide
theorem picD_eqv (p q : Pic) : PyData.eqv (picD p) (picD q) = decide (p = q) := by
  rw [Bool.eq_iff_iff, decide_eq_true_eq]
  show PyData.eqv (IsD.d p : Dy).py (IsD.d q : Dy).py = true ↔ _
  rw [Dy.py_eqv]
  constructor
  · intro h
    have h : Dy.l (p.map Dy.s) = Dy.l (q.map Dy.s) := h
    have h := Dy.l.inj h
    exact List.map_inj_right (fun a b e => Dy.s.inj e) |>.mp h
  · intro h; rw [h]
theorem pcLt {a b : Pic × Int} (h : a.1 ≠ b.1) : PySem.W.dataLt (pcD a) (pcD b) = decide (a.1 < b.1) := by
  rw [pcD_eq, pcD_eq, PySem.W.dataLt_pair (pic_alike _ _) (by simp [PySem.W.alike]), picD_eqv, decide_eq_false h, if_neg (by simp), picLt]
theorem pcLt_eq {a b : Pic × Int} (h : a.1 = b.1) : PySem.W.dataLt (pcD a) (pcD b) = decide (a.2 < b.2) := by
  rw [pcD_eq, pcD_eq, PySem.W.dataLt_pair (pic_alike _ _) (by simp [PySem.W.alike]), picD_eqv, decide_eq_true h, if_pos rfl, PySem.W.dataLt_int]
  by_cases e : a.2 = b.2
  · rw [if_pos (by simp [PyData.eqv, e]), decide_eq_false (by omega)]
  · rw [if_neg (by simp [PyData.eqv, e])]
theorem pcLt_is (a b : Pic × Int) : PySem.W.dataLt (pcD a) (pcD b) = decide (a.1 < b.1 ∨ (a.1 = b.1 ∧ a.2 < b.2)) := by
  by_cases h : a.1 = b.1
  · rw [pcLt_eq h, Bool.eq_iff_iff, decide_eq_true_eq, decide_eq_true_eq]
    have := List.lt_irrefl b.1
    constructor
    · intro h2; exact .inr ⟨h, h2⟩
    · rintro (h2 | h2)
      · rw [h] at h2; exact absurd h2 this
      · exact h2.2
  · rw [pcLt h, Bool.eq_iff_iff, decide_eq_true_eq, decide_eq_true_eq]
    constructor
    · intro h2; exact .inl h2
    · rintro (h2 | h2)
      · exact h2
      · exact absurd h2.1 h
theorem not_dec {p : Prop} [Decidable p] : (!decide p) = true ↔ ¬ p := by
  by_cases h : p <;> simp [h]
theorem pc_sorted {l : List (Pic × Int)} (nd : (l.map (·.1)).Nodup) : (l.mergeSort (PySem.W.dataLe false pcD)).Pairwise fun a b => a.1 < b.1 := by
  have ple : (PySem.W.dataLe false pcD : Pic × Int → Pic × Int → Bool) = fun a b => !decide (b.1 < a.1 ∨ (b.1 = a.1 ∧ b.2 < a.2)) := by
    rw [PySem.W.dataLe_eq]
    funext a b
    show (!PySem.W.dataLt (pcD b) (pcD a)) = _
    rw [pcLt_is]
  have tri : ∀ a b : Pic, a < b ∨ a = b ∨ b < a := fun a b => by
    by_cases h : a < b
    · exact .inl h
    · by_cases h2 : b < a
      · exact .inr (.inr h2)
      · exact .inr (.inl (List.le_antisymm (List.not_lt.mp h2) (List.not_lt.mp h)))
  have hs : (l.mergeSort (PySem.W.dataLe false pcD)).Pairwise fun a b => ¬ (b.1 < a.1 ∨ (b.1 = a.1 ∧ b.2 < a.2)) := by
    rw [ple]
    refine (List.pairwise_mergeSort (fun a b c h1 h2 => ?_) (fun a b => ?_) l).imp fun {a b} h => not_dec.mp h
    · have h1 : ¬ (b.1 < a.1 ∨ (b.1 = a.1 ∧ b.2 < a.2)) := not_dec.mp h1
      have h2 : ¬ (c.1 < b.1 ∨ (c.1 = b.1 ∧ c.2 < b.2)) := not_dec.mp h2
      have h3 : ¬ (c.1 < a.1 ∨ (c.1 = a.1 ∧ c.2 < a.2)) := by
        rcases tri a.1 b.1 with t1 | t1 | t1
        · rcases tri b.1 c.1 with t2 | t2 | t2
          · have t3 := List.lt_trans t1 t2
            rintro (h | ⟨h, _⟩)
            · exact List.lt_asymm t3 h
            · rw [h] at t3; exact List.lt_irrefl _ t3
          · rw [t2] at t1
            rintro (h | ⟨h, _⟩)
            · exact List.lt_asymm t1 h
            · rw [h] at t1; exact List.lt_irrefl _ t1
          · exact absurd (.inl t2) h2
        · rcases tri b.1 c.1 with t2 | t2 | t2
          · rw [← t1] at t2
            rintro (h | ⟨h, _⟩)
            · exact List.lt_asymm t2 h
            · rw [h] at t2; exact List.lt_irrefl _ t2
          · have v1 : ¬ b.2 < a.2 := fun h => h1 (.inr ⟨t1.symm, h⟩)
            have v2 : ¬ c.2 < b.2 := fun h => h2 (.inr ⟨t2.symm, h⟩)
            rintro (h | ⟨_, h⟩)
            · rw [t1, t2] at h; exact List.lt_irrefl _ h
            · omega
          · exact absurd (.inl t2) h2
        · exact absurd (.inl t1) h1
      exact not_dec.mpr h3
    · rcases tri a.1 b.1 with t1 | t1 | t1
      · have : ¬ (b.1 < a.1 ∨ (b.1 = a.1 ∧ b.2 < a.2)) := by
          rintro (h | ⟨h, _⟩)
          · exact List.lt_asymm t1 h
          · rw [h] at t1; exact List.lt_irrefl _ t1
        rw [decide_eq_false this]; rfl
      · by_cases v : b.2 < a.2
        · have : ¬ (a.1 < b.1 ∨ (a.1 = b.1 ∧ a.2 < b.2)) := by
            rintro (h | ⟨_, h⟩)
            · rw [t1] at h; exact List.lt_irrefl _ h
            · omega
          rw [decide_eq_false this, Bool.not_false, Bool.or_true]
        · have : ¬ (b.1 < a.1 ∨ (b.1 = a.1 ∧ b.2 < a.2)) := by
            rintro (h | ⟨_, h⟩)
            · rw [t1] at h; exact List.lt_irrefl _ h
            · exact v h
          rw [decide_eq_false this]; rfl
      · have : ¬ (a.1 < b.1 ∨ (a.1 = b.1 ∧ a.2 < b.2)) := by
          rintro (h | ⟨h, _⟩)
          · exact List.lt_asymm t1 h
          · rw [h] at t1; exact List.lt_irrefl _ t1
        rw [decide_eq_false this, Bool.not_false, Bool.or_true]
  have hn : (l.mergeSort (PySem.W.dataLe false pcD)).Pairwise fun a b => a.1 ≠ b.1 := by
    have := ((List.mergeSort_perm l (PySem.W.dataLe false pcD)).map (·.1)).nodup_iff.mpr nd
    exact List.pairwise_map.mp this
  refine (hs.and hn).imp fun {a b} h => ?_
  rcases tri a.1 b.1 with t | t | t
  · exact t
  · exact absurd t h.2
  · exact absurd (.inl t) h.1
noncomputable def key40 (q : RowQ) (p : Pic) : KNm := (q.r.name, Tup.mk p)
noncomputable def putB (l : Cos) (k : KNm) : Option Int → Bool
  | none => false
  | some c => match look l k with
    | none => true
    | some v => decide (c < v)
noncomputable abbrev Cst := Cos × Bool
noncomputable def step40 (s : Cst) (q : RowQ) (p : Pic) : Cst := if putB s.1 (key40 q p) (comesF s.1 q p) = true then (put s.1 (key40 q p) ((comesF s.1 q p).getD 0), true) else s
noncomputable def row40 (ps : List Pic) (s : Cst) (q : RowQ) : Cst := ps.foldl (fun s p => step40 s q p) s
noncomputable def pass40 (qs : List RowQ) (ps : List Pic) (l : Cos) : Cst := qs.foldl (row40 ps) (l, false)
structure Good40 (rs : List RuleD) (ns : List Tx) (ps : List Pic) (l : Cos) : Prop where
  nd : (l.map (·.1)).Nodup
  inn : ∀ x ∈ l, x.1.1 ∈ ns ∧ x.1.2.l ∈ ps ∧ Der rs x.1.2.l x.1.1 x.2
theorem good40_nil {rs : List RuleD} {ns : List Tx} {ps : List Pic} : Good40 rs ns ps [] := ⟨List.nodup_nil, fun _ h => (List.not_mem_nil h).elim⟩
theorem Good40.len {rs : List RuleD} {ns : List Tx} {ps : List Pic} {l : Cos} (h : Good40 rs ns ps l) : l.length ≤ ns.length * ps.length := by
  have h1 := nodup_leB (m := ns.flatMap fun n => ps.map fun p => ((n, Tup.mk p) : KNm)) h.nd fun k hk => by
    obtain ⟨x, hx, rfl⟩ := List.mem_map.mp hk
    obtain ⟨h1, h2, _⟩ := h.inn x hx
    exact List.mem_flatMap.mpr ⟨_, h1, List.mem_map.mpr ⟨_, h2, rfl⟩⟩
  rw [flat_lenZ (n := ps.length) _ fun n _ => List.length_map .., List.length_map] at h1
  exact h1
noncomputable def sm40 (l : Cos) : Nat := sumV (fun v : Int => v.toNat) l
noncomputable def Less40 (l' l : Cos) : Prop := l.length < l'.length ∨ (l'.length = l.length ∧ sm40 l' < sm40 l)
noncomputable def Prog40 (s s' : Cst) : Prop := s' = s ∨ (s'.2 = true ∧ Less40 s'.1 s.1)
theorem Less40.trans {a b c : Cos} (h : Less40 b a) (h2 : Less40 c b) : Less40 c a := by
  unfold Less40 at *
  omega
theorem Prog40.trans {a b c : Cst} (h : Prog40 a b) (h2 : Prog40 b c) : Prog40 a c := by
  rcases h2 with e | ⟨e, l2⟩
  · rw [e]; exact h
  · rcases h with e1 | ⟨e1, l1⟩
    · rw [e1] at l2; exact .inr ⟨e, l2⟩
    · exact .inr ⟨e, l1.trans l2⟩
theorem pair_least {l : Cos} {q : RowQ} {a b : Tx} {p : Pic} : ∀ {m j : Nat} {c : Int}, 1 ≤ j → j ≤ m → pairAt l q a b p j = some c → ∃ d, d ≤ c ∧ pairF l q a b p m = some d
  | 0, j, c, h1, h2, _ => by omega
  | m + 1, j, c, h1, h2, h => by
    show ∃ d, d ≤ c ∧ minO (pairF l q a b p m) (pairAt l q a b p (m + 1)) = some d
    by_cases e : j = m + 1
    · subst e
      rw [h]
      cases pairF l q a b p m with
      | none => exact ⟨c, Int.le_refl _, rfl⟩
      | some d =>
        refine ⟨_, ?_, rfl⟩
        split <;> omega
    · obtain ⟨d, hd, e2⟩ := pair_least (m := m) h1 (by omega) h
      rw [e2]
      cases pairAt l q a b p (m + 1) with
      | none => exact ⟨d, hd, rfl⟩
      | some u =>
        refine ⟨_, ?_, rfl⟩
        split <;> omega
theorem pair_from {l : Cos} {q : RowQ} {a b : Tx} {p : Pic} : ∀ {m : Nat} {c : Int}, pairF l q a b p m = some c → ∃ j, 1 ≤ j ∧ j ≤ m ∧ pairAt l q a b p j = some c
  | 0, c, h => by cases h
  | m + 1, c, h => by
    have h : minO (pairF l q a b p m) (pairAt l q a b p (m + 1)) = some c := h
    cases h1 : pairF l q a b p m with
    | none =>
      rw [h1] at h
      cases h2 : pairAt l q a b p (m + 1) with
      | none => rw [h2] at h; cases h
      | some u => rw [h2] at h; exact ⟨m + 1, by omega, Nat.le_refl _, by rw [h2]; exact h⟩
    | some d =>
      obtain ⟨j, j1, j2, j3⟩ := pair_from h1
      cases h2 : pairAt l q a b p (m + 1) with
      | none => rw [h1, h2] at h; cases h; exact ⟨j, j1, by omega, j3⟩
      | some u =>
        rw [h1, h2] at h
        have h : some (if u < d then u else d) = some c := h
        split at h
        · exact ⟨m + 1, by omega, Nat.le_refl _, by rw [h2]; exact h⟩
        · cases h; exact ⟨j, j1, by omega, j3⟩
theorem parts_of (s : Bool) (p : Pic) (n : Nat) : putT s (partA s p n) (partB s p n) = p := by
  cases s with
  | true =>
    show List.zipWith (· ++ ·) (p.map (List.take n)) (p.map (List.drop n)) = p
    induction p with
    | nil => rfl
    | cons x p ih => rw [List.map_cons, List.map_cons, List.zipWith_cons_cons, ih, List.take_append_drop]
  | false => exact List.take_append_drop n p
theorem Pk.parts {s : Bool} {p : Pic} {r c n : Nat} (hp : Pk p r c) (h0 : 0 < n) (h1 : n < if s then c else r) : Pk (partA s p n) (if s then r else n) (if s then n else c) ∧ Pk (partB s p n) (if s then r else r - n) (if s then c - n else c) := by
  have l := hp.len
  have r0 := hp.r0
  have c0 := hp.c0
  have r6 := hp.r6
  have c6 := hp.c6
  cases s with
  | true =>
    have h1 : n < c := h1
    refine ⟨⟨by show (p.map _).length = r; rw [List.length_map, l], fun x hx => ?_, r0, h0, r6, (by show n ≤ 6; omega)⟩, ⟨by show (p.map _).length = r; rw [List.length_map, l], fun x hx => ?_, r0, (by show 0 < c - n; omega), r6, (by show c - n ≤ 6; omega)⟩⟩
    · obtain ⟨y, hy, rfl⟩ := List.mem_map.mp hx
      have := hp.row y hy
      show (y.take n).length = n
      rw [List.length_take]; omega
    · obtain ⟨y, hy, rfl⟩ := List.mem_map.mp hx
      have := hp.row y hy
      show (y.drop n).length = c - n
      rw [List.length_drop]; omega
  | false =>
    have h1 : n < r := h1
    refine ⟨⟨by show (p.take n).length = n; rw [List.length_take]; omega, fun x hx => hp.row x (List.mem_of_mem_take hx), h0, c0, (by show n ≤ 6; omega), c6⟩, ⟨by show (p.drop n).length = r - n; rw [List.length_drop]; omega, fun x hx => hp.row x (List.mem_of_mem_drop hx), (by show 0 < r - n; omega), c0, (by show r - n ≤ 6; omega), c6⟩⟩
noncomputable def sd40 (q : RowQ) : Bool := decide (q.r.kdI = 1)
theorem cut_a (q : RowQ) (p : Pic) (j : Nat) : cutL1 q p j = partA (sd40 q) p j := by
  unfold cutL1 partA sd40
  by_cases h : q.r.kdI = 1
  · rw [if_pos h, decide_eq_true h]; rfl
  · rw [if_neg h, decide_eq_false h]; rfl
theorem cut_b (q : RowQ) (p : Pic) (j : Nat) : cutL2 q p j = partB (sd40 q) p j := by
  unfold cutL2 partB sd40
  by_cases h : q.r.kdI = 1
  · rw [if_pos h, decide_eq_true h]; rfl
  · rw [if_neg h, decide_eq_false h]; rfl
theorem many_is {q : RowQ} {p : Pic} {r c : Nat} (hp : Pk p r c) : manyP q p = if sd40 q then c else r := by
  unfold manyP sd40
  obtain ⟨x, p', rfl, hx⟩ := hp.hd
  by_cases h : q.r.kdI = 1
  · rw [if_pos h, decide_eq_true h, if_pos rfl]; exact hx
  · rw [if_neg h, decide_eq_false h, if_neg (by simp)]; exact hp.len
theorem Good40.der {rs : List RuleD} {ns : List Tx} {ps : List Pic} {l : Cos} (h : Good40 rs ns ps l) {n : Tx} {p : Pic} {v : Int} (hv : lookN l n p = some v) : Der rs p n v := (h.inn _ (look_mem hv)).2.2
theorem comes_der {rs : List RuleD} {ns : List Tx} {ps : List Pic} {l : Cos} (h : Good40 rs ns ps l) {q : RowQ} (hq : q.r ∈ rs) (hg : q.r.good = true) {p : Pic} {r c : Nat} (hp : Pk p r c) {v : Int} (hv : comesF l q p = some v) : Der rs p q.r.name v := by
  obtain ⟨rl⟩ := q
  cases rl with
  | cell n co s =>
    have hv : (if p = [s] then some co else none) = some v := hv
    split at hv
    · rename_i e
      cases hv
      rw [e]
      exact .cell hq
    · cases hv
  | turn n co a t =>
    obtain ⟨t0, t7⟩ := good_turn hg
    have hv : (lookN l a (turned p (backN t.toNat))).map (fun v => co + v) = some v := hv
    cases hl : lookN l a (turned p (backN t.toNat)) with
    | none => rw [hl] at hv; cases hv
    | some u =>
      rw [hl] at hv
      cases hv
      have hb := (after_back t.toNat (by omega)).2.2
      have e : turned (turned p (backN t.toNat)) t.toNat = p := by
        have h2 := turned_back hp hb
        have e2 : ∀ u < 8, backN (backN u) = u := by decide
        rw [e2 t.toNat (by omega)] at h2
        exact h2
      have := Der.turn hq (hp.turned _) t0 t7 (h.der hl)
      rw [e] at this
      exact this
  | beside n co a b =>
    have hv : pairF l ⟨.beside n co a b⟩ a b p (manyP ⟨.beside n co a b⟩ p - 1) = some v := hv
    obtain ⟨j, j1, j2, hj⟩ := pair_from hv
    rw [many_is hp] at j2
    unfold pairAt at hj
    cases h1 : lookN l a (cutL1 ⟨.beside n co a b⟩ p j) with
    | none => rw [h1] at hj; cases hj
    | some u =>
      cases h2 : lookN l b (cutL2 ⟨.beside n co a b⟩ p j) with
      | none => rw [h1, h2] at hj; cases hj
      | some z =>
        rw [h1, h2] at hj
        cases hj
        obtain ⟨k1, k2⟩ := hp.parts (s := true) (n := j) (by omega) (by have : j ≤ c - 1 := j2; have := hp.c0; show j < c; omega)
        have := Der.side hq k1 k2 (h.der h1) (h.der h2)
        rw [parts_of] at this
        exact this
  | above n co a b =>
    have hv : pairF l ⟨.above n co a b⟩ a b p (manyP ⟨.above n co a b⟩ p - 1) = some v := hv
    obtain ⟨j, j1, j2, hj⟩ := pair_from hv
    rw [many_is hp] at j2
    unfold pairAt at hj
    cases h1 : lookN l a (cutL1 ⟨.above n co a b⟩ p j) with
    | none => rw [h1] at hj; cases hj
    | some u =>
      cases h2 : lookN l b (cutL2 ⟨.above n co a b⟩ p j) with
      | none => rw [h1, h2] at hj; cases hj
      | some z =>
        rw [h1, h2] at hj
        cases hj
        obtain ⟨k1, k2⟩ := hp.parts (s := false) (n := j) (by omega) (by have : j ≤ r - 1 := j2; have := hp.r0; show j < r; omega)
        have := Der.over hq k1 k2 (h.der h1) (h.der h2)
        rw [parts_of] at this
        exact this
theorem step_good {rs : List RuleD} {ns : List Tx} {ps : List Pic} {s : Cst} (h : Good40 rs ns ps s.1) {q : RowQ} (hq : q.r ∈ rs) (hg : ∀ y ∈ rs, y.good = true) (hn : q.r.name ∈ ns) {p : Pic} (hps : p ∈ ps) {r c : Nat} (hp : Pk p r c) : Good40 rs ns ps (step40 s q p).1 ∧ Prog40 s (step40 s q p) := by
  unfold step40
  split
  · rename_i hb
    cases hc : comesF s.1 q p with
    | none => rw [hc] at hb; cases hb
    | some v =>
      rw [hc] at hb
      have hd := comes_der h hq (hg _ hq) hp hc
      refine ⟨⟨put_nodup h.nd, fun x hx => ?_⟩, .inr ⟨rfl, ?_⟩⟩
      · rcases put_mem hx with e | hx
        · subst e
          exact ⟨hn, hps, hd⟩
        · exact h.inn x hx
      · show Less40 (put s.1 (key40 q p) v) s.1
        obtain ⟨h1, h2⟩ := sumV_put (f := fun v : Int => v.toNat) (k := key40 q p) (v := v) h.nd
        have hk := congrArg List.length (put_keys (l := s.1) (k := key40 q p) (v := v))
        rw [List.length_map] at hk
        cases hl : look s.1 (key40 q p) with
        | none =>
          rw [hl, if_neg (by simp), List.length_append, List.length_map] at hk
          exact .inl (by rw [hk]; exact Nat.lt_succ_self _)
        | some u =>
          rw [hl, if_pos (show (some u).isSome = true from rfl), List.length_map] at hk
          have hb : (match look s.1 (key40 q p) with | none => true | some u => decide (v < u)) = true := hb
          rw [hl] at hb
          have hb : v < u := of_decide_eq_true hb
          have hv := der_pos hg hd
          have := h1 u hl
          refine .inr ⟨hk, ?_⟩
          show sumV (fun v : Int => v.toNat) (put s.1 (key40 q p) v) < sumV (fun v : Int => v.toNat) s.1
          omega
  · exact ⟨h, .inl rfl⟩
theorem fold_good {A : Type} {rs : List RuleD} {ns : List Tx} {ps : List Pic} {f : Cst → A → Cst} : ∀ (xs : List A), (∀ s x, x ∈ xs → Good40 rs ns ps s.1 → Good40 rs ns ps (f s x).1 ∧ Prog40 s (f s x)) → ∀ s, Good40 rs ns ps s.1 → Good40 rs ns ps (xs.foldl f s).1 ∧ Prog40 s (xs.foldl f s)
  | [], _, s, h => ⟨h, .inl rfl⟩
  | x :: xs, hf, s, h => by
    obtain ⟨h1, h2⟩ := hf s x (List.mem_cons_self ..) h
    obtain ⟨h3, h4⟩ := fold_good xs (fun s y hy => hf s y (List.mem_cons_of_mem _ hy)) (f s x) h1
    exact ⟨h3, h2.trans h4⟩
theorem Less40.irr {l : Cos} : ¬ Less40 l l := by
  unfold Less40
  omega
theorem fold_same {A : Type} {rs : List RuleD} {ns : List Tx} {ps : List Pic} {f : Cst → A → Cst} : ∀ (xs : List A), (∀ s x, x ∈ xs → Good40 rs ns ps s.1 → Good40 rs ns ps (f s x).1 ∧ Prog40 s (f s x)) → ∀ s, Good40 rs ns ps s.1 → (xs.foldl f s).1 = s.1 → (∀ x ∈ xs, f s x = s)
  | [], _, s, h, _, x, hx => (List.not_mem_nil hx).elim
  | y :: xs, hf, s, h, e, x, hx => by
    obtain ⟨h1, h2⟩ := hf s y (List.mem_cons_self ..) h
    have hf' : ∀ s x, x ∈ xs → Good40 rs ns ps s.1 → Good40 rs ns ps (f s x).1 ∧ Prog40 s (f s x) := fun s y hy => hf s y (List.mem_cons_of_mem _ hy)
    obtain ⟨h3, h4⟩ := fold_good xs hf' (f s y) h1
    have e : (xs.foldl f (f s y)).1 = s.1 := e
    have e1 : f s y = s := by
      rcases h2 with h2 | ⟨_, l2⟩
      · exact h2
      · rcases h4 with h4 | ⟨_, l4⟩
        · rw [h4] at e; rw [e] at l2; exact (Less40.irr l2).elim
        · have := l2.trans l4; rw [e] at this; exact (Less40.irr this).elim
    rcases List.mem_cons.mp hx with rfl | hx
    · exact e1
    · rw [e1] at e
      exact fold_same xs hf' s h e x hx
structure Pre40 (rs : List RuleD) (ns : List Tx) (ps : List Pic) (qs : List RowQ) : Prop where
  eq : rs = qs.map RowQ.r
  gd : ∀ y ∈ rs, y.good = true
  nm : ∀ q ∈ qs, q.r.name ∈ ns
  pk : ∀ p ∈ ps, ∃ r c, Pk p r c
theorem Pre40.mem {rs : List RuleD} {ns : List Tx} {ps : List Pic} {qs : List RowQ} (h : Pre40 rs ns ps qs) {q : RowQ} (hq : q ∈ qs) : q.r ∈ rs := by
  rw [h.eq]; exact List.mem_map.mpr ⟨q, hq, rfl⟩
theorem Pre40.row {rs : List RuleD} {ns : List Tx} {ps : List Pic} {qs : List RowQ} (h : Pre40 rs ns ps qs) {q : RowQ} (hq : q ∈ qs) : ∀ s p, p ∈ ps → Good40 rs ns ps s.1 → Good40 rs ns ps (step40 s q p).1 ∧ Prog40 s (step40 s q p) := fun s p hp hg => by
  obtain ⟨r, c, hk⟩ := h.pk p hp
  exact step_good hg (h.mem hq) h.gd (h.nm q hq) hp hk
theorem Pre40.rows {rs : List RuleD} {ns : List Tx} {ps : List Pic} {qs : List RowQ} (h : Pre40 rs ns ps qs) : ∀ s q, q ∈ qs → Good40 rs ns ps s.1 → Good40 rs ns ps (row40 ps s q).1 ∧ Prog40 s (row40 ps s q) := fun s q hq hg => fold_good ps (h.row hq) s hg
theorem Pre40.pass {rs : List RuleD} {ns : List Tx} {ps : List Pic} {qs : List RowQ} (h : Pre40 rs ns ps qs) {l : Cos} (hl : Good40 rs ns ps l) : Good40 rs ns ps (pass40 qs ps l).1 ∧ Prog40 (l, false) (pass40 qs ps l) := fold_good qs h.rows (l, false) hl
noncomputable def Fix40 (qs : List RowQ) (ps : List Pic) (l : Cos) : Prop := ∀ q ∈ qs, ∀ p ∈ ps, putB l (key40 q p) (comesF l q p) = false
theorem Pre40.fix {rs : List RuleD} {ns : List Tx} {ps : List Pic} {qs : List RowQ} (h : Pre40 rs ns ps qs) {l : Cos} (hl : Good40 rs ns ps l) (hb : (pass40 qs ps l).2 = false) : (pass40 qs ps l).1 = l ∧ Fix40 qs ps l := by
  obtain ⟨_, h2⟩ := h.pass hl
  have e : pass40 qs ps l = (l, false) := by
    rcases h2 with h2 | ⟨h2, _⟩
    · exact h2
    · rw [hb] at h2; cases h2
  refine ⟨by rw [e], fun q hq p hp => ?_⟩
  have e1 := fold_same qs h.rows (l, false) hl (by rw [show qs.foldl (row40 ps) (l, false) = (l, false) from e]) q hq
  have e2 := fold_same ps (h.row hq) (l, false) hl (by rw [show ps.foldl (fun s p => step40 s q p) (l, false) = (l, false) from e1]) p hp
  cases hx : putB l (key40 q p) (comesF l q p) with
  | false => rfl
  | true =>
    unfold step40 at e2
    rw [if_pos hx] at e2
    cases congrArg Prod.snd e2
noncomputable def Ends40 (qs : List RowQ) (ps : List Pic) : Nat → Cos → Prop
  | 0, _ => False
  | m + 1, l => (pass40 qs ps l).2 = true → Ends40 qs ps m (pass40 qs ps l).1
theorem Pre40.ends {rs : List RuleD} {ns : List Tx} {ps : List Pic} {qs : List RowQ} (h : Pre40 rs ns ps qs) : ∀ (a b : Nat) {l : Cos}, Good40 rs ns ps l → ns.length * ps.length - l.length ≤ a → sm40 l ≤ b → ∃ m, Ends40 qs ps m l := by
  intro a
  induction a using Nat.strongRecOn with
  | _ a iha =>
    intro b
    induction b using Nat.strongRecOn with
    | _ b ihb =>
      intro l hl h1 h2
      obtain ⟨g1, g2⟩ := h.pass hl
      rcases g2 with e | ⟨e, hless⟩
      · exact ⟨1, fun hb => by rw [e] at hb; cases hb⟩
      · have hlen := g1.len
        rcases hless with hlt | ⟨heq, hlt⟩
        · have hlt : l.length < (pass40 qs ps l).1.length := hlt
          obtain ⟨m, hm⟩ := iha (ns.length * ps.length - (pass40 qs ps l).1.length) (by omega) _ g1 (Nat.le_refl _) (Nat.le_refl _)
          exact ⟨m + 1, fun _ => hm⟩
        · have hlt : sm40 (pass40 qs ps l).1 < sm40 l := hlt
          have heq : (pass40 qs ps l).1.length = l.length := heq
          obtain ⟨m, hm⟩ := ihb (sm40 (pass40 qs ps l).1) (by omega) g1 (by rw [heq]; exact h1) (Nat.le_refl _)
          exact ⟨m + 1, fun _ => hm⟩
structure Zs40 (zs : List (Nat × Nat)) : Prop where
  turn : ∀ z ∈ zs, (z.2, z.1) ∈ zs
  side : ∀ z ∈ zs, ∀ a, 1 ≤ a → a < z.2 → (z.1, a) ∈ zs
  over : ∀ z ∈ zs, ∀ a, 1 ≤ a → a < z.1 → (a, z.2) ∈ zs
theorem fix_at {qs : List RowQ} {ps : List Pic} {l : Cos} (hf : Fix40 qs ps l) {q : RowQ} (hq : q ∈ qs) {p : Pic} (hp : p ∈ ps) {c : Int} (h : comesF l q p = some c) : ∃ v, v ≤ c ∧ lookN l q.r.name p = some v := by
  have := hf q hq p hp
  rw [h] at this
  have this : (match look l (key40 q p) with | none => true | some v => decide (c < v)) = false := this
  cases hl : look l (key40 q p) with
  | none => rw [hl] at this; cases this
  | some v =>
    rw [hl] at this
    have := of_decide_eq_false this
    exact ⟨v, by omega, hl⟩
theorem fix_all {rs : List RuleD} {x : Tx} {names : List Tx} (hr : RSok x names rs) {qs : List RowQ} (hrs : rs = qs.map RowQ.r) {zs : List (Nat × Nat)} (hz : Zs40 zs) {ps : List Pic} (hps : ∀ p, p ∈ ps ↔ ∃ z ∈ zs, Pk p z.1 z.2 ∧ InSg x p) {l : Cos} (hf : Fix40 qs ps l) {p : Pic} {n : Tx} {k : Int} (d : Der rs p n k) : p ∈ ps → ∃ v, v ≤ k ∧ lookN l n p = some v := by
  have inv : ∀ {r : RuleD}, r ∈ rs → ∃ q ∈ qs, q.r = r := fun {r} h => by
    rw [hrs] at h
    obtain ⟨q, hq, e⟩ := List.mem_map.mp h
    exact ⟨q, hq, e⟩
  induction d with
  | @cell n co s hm =>
    intro hp
    obtain ⟨⟨rl⟩, hq, e⟩ := inv hm
    have e : rl = .cell n co s := e
    subst e
    have hc : comesF l ⟨.cell n co s⟩ [s] = some co := if_pos rfl
    exact fix_at hf hq hp hc
  | @turn n co a t p rp cp k hm hk t0 t7 d ih =>
    intro hp
    obtain ⟨⟨rl⟩, hq, e⟩ := inv hm
    have e : rl = .turn n co a t := e
    subst e
    obtain ⟨z, hz1, hz2, _⟩ := (hps _).mp hp
    obtain ⟨e1, e2⟩ := hz2.uniq (hk.turned t.toNat)
    have hzp : (rp, cp) ∈ zs := by
      by_cases ht : t.toNat % 2 = 0
      · rw [if_pos ht] at e1 e2
        rw [← e1, ← e2]; exact hz1
      · rw [if_neg ht] at e1 e2
        rw [← e1, ← e2]; exact hz.turn _ hz1
    obtain ⟨v, hv, hl⟩ := ih ((hps _).mpr ⟨_, hzp, hk, der_sg hr d⟩)
    have hc : comesF l ⟨.turn n co a t⟩ (turned p t.toNat) = some (co + v) := by
      show (lookN l a (turned (turned p t.toNat) (backN t.toNat))).map (fun v => co + v) = _
      rw [turned_back hk (by omega), hl]; rfl
    obtain ⟨u, hu, hl2⟩ := fix_at hf hq hp hc
    exact ⟨u, by omega, hl2⟩
  | @side n co a b p q r c1 c2 k m hm hk1 hk2 d1 d2 i1 i2 =>
    intro hp
    obtain ⟨⟨rl⟩, hq, e⟩ := inv hm
    have e : rl = .beside n co a b := e
    subst e
    obtain ⟨z, hz1, hz2, _⟩ := (hps _).mp hp
    obtain ⟨e1, e2⟩ := put_size (s := true) hk1 hk2 rfl hz2
    rw [if_pos rfl] at e1 e2
    have a1 := hk1.c0
    have a2 := hk2.c0
    obtain ⟨v1, h1, l1⟩ := i1 ((hps _).mpr ⟨_, by have := hz.side z hz1 c1 (by omega) (by omega); rw [e1] at this; exact this, hk1, der_sg hr d1⟩)
    obtain ⟨v2, h2, l2⟩ := i2 ((hps _).mpr ⟨_, by have := hz.side z hz1 c2 (by omega) (by omega); rw [e1] at this; exact this, hk2, der_sg hr d2⟩)
    obtain ⟨pa, pb⟩ := parts_put (s := true) hk1 hk2 rfl
    have hat : pairAt l ⟨.beside n co a b⟩ a b (putT true p q) c1 = some (co + v1 + v2) := by
      unfold pairAt
      rw [cut_a, cut_b]
      have ea : partA (sd40 ⟨.beside n co a b⟩) (putT true p q) c1 = p := pa
      have eb : partB (sd40 ⟨.beside n co a b⟩) (putT true p q) c1 = q := pb
      rw [ea, eb, l1, l2]
      rfl
    obtain ⟨d, hd, hpf⟩ := pair_least (m := manyP ⟨.beside n co a b⟩ (putT true p q) - 1) (j := c1) (by omega) (by
      rw [many_is hz2]
      have : sd40 ⟨.beside n co a b⟩ = true := rfl
      rw [this, if_pos rfl]
      omega) hat
    obtain ⟨u, hu, hl2⟩ := fix_at hf hq hp (c := d) hpf
    exact ⟨u, by omega, hl2⟩
  | @over n co a b p q r1 r2 c k m hm hk1 hk2 d1 d2 i1 i2 =>
    intro hp
    obtain ⟨⟨rl⟩, hq, e⟩ := inv hm
    have e : rl = .above n co a b := e
    subst e
    obtain ⟨z, hz1, hz2, _⟩ := (hps _).mp hp
    obtain ⟨e1, e2⟩ := put_size (s := false) hk1 hk2 rfl hz2
    rw [if_neg (by simp)] at e1 e2
    have a1 := hk1.r0
    have a2 := hk2.r0
    obtain ⟨v1, h1, l1⟩ := i1 ((hps _).mpr ⟨_, by have := hz.over z hz1 r1 (by omega) (by omega); rw [e2] at this; exact this, hk1, der_sg hr d1⟩)
    obtain ⟨v2, h2, l2⟩ := i2 ((hps _).mpr ⟨_, by have := hz.over z hz1 r2 (by omega) (by omega); rw [e2] at this; exact this, hk2, der_sg hr d2⟩)
    obtain ⟨pa, pb⟩ := parts_put (s := false) hk1 hk2 rfl
    have hat : pairAt l ⟨.above n co a b⟩ a b (putT false p q) r1 = some (co + v1 + v2) := by
      unfold pairAt
      rw [cut_a, cut_b]
      have ea : partA (sd40 ⟨.above n co a b⟩) (putT false p q) r1 = p := pa
      have eb : partB (sd40 ⟨.above n co a b⟩) (putT false p q) r1 = q := pb
      rw [ea, eb, l1, l2]
      rfl
    obtain ⟨d, hd, hpf⟩ := pair_least (m := manyP ⟨.above n co a b⟩ (putT false p q) - 1) (j := r1) (by omega) (by
      rw [many_is hz2]
      have : sd40 ⟨.above n co a b⟩ = false := rfl
      rw [this, if_neg (by simp)]
      omega) hat
    obtain ⟨u, hu, hl2⟩ := fix_at hf hq hp (c := d) hpf
    exact ⟨u, by omega, hl2⟩
local macro_rules | `(tactic| walk_at "le") => `(tactic| repeat (first | exact le_nil | refine le_cons ?_ | refine le_no ?_))
noncomputable def costs40S (w : World) : Tw.Spec := fun A P _ => ∃ (rs : List RuleD) (ns : List Tx) (qs : List RowQ) (ps : List Pic), A = [vl qs, vl ps] ∧ Pre40 rs ns ps qs ∧ ns.length * ps.length ≤ 900 ∧ (∀ p ∈ ps, ∀ y ∈ p, TxOk y) ∧ P (.own fun o => ∃ ad l, Good40 rs ns ps l ∧ Fix40 qs ps l ∧ o = ownN w ad l)
section
variable {P : Program} {w : World} {K : PySem.W.Frag} {mg : Str → Option Value} {base : Heap}
theorem ok_law_costs (T : Txt K mg) : Has P w K mg base 6 "_law_costs" ["_law_rules", "_law_pictures"] (costs40S w) := by
  refine Has.of (k := 5) T.f_law_costs sc_law_costs (fun A Q R ⟨rs, ns, qs, ps, e, _⟩ => by rw [e]; rfl) fun f cdv A outer s0 H E hr Γ Q R ⟨rs, ns, qs, ps, e, hP, h900, hok, hq⟩ => ?_
  subst e
  refine st_setDN 2 (fun ad => ?_) sc_law_costs.nd
  refine st_set 3 (x := true) ev_bl ?_ sc_law_costs.nd
  obtain ⟨m0, hm0⟩ := hP.ends _ _ (l := []) good40_nil (Nat.le_refl _) (Nat.le_refl _)
  refine st_whileS (ι := Cst) (fun s => [vl qs, vl ps, .own (ownN w ad s.1), vl s.2, .no, .no, .no, .no]) (fun m s => Good40 rs ns ps s.1 ∧ (s.2 = false → Fix40 qs ps s.1) ∧ (s.2 = true → Ends40 qs ps m s.1)) m0 ([], true) (by walk_at "le") ⟨good40_nil, (fun h => nomatch h), fun _ => hm0⟩ (fun m s hI => ?_)
  obtain ⟨l, b⟩ := s
  obtain ⟨hg, hfix, hend⟩ := hI
  refine ⟨b, et_val (ev_var 3), fun hb => ?_, fun hb => ?_⟩
  rotate_left
  · exact st_retO 2 hq ⟨ad, l, hg, hfix hb, rfl⟩
  have hb : b = true := hb
  subst hb
  have hend := hend rfl
  refine st_set 3 (x := false) ev_bl ?_ sc_law_costs.nd
  refine st_for (xs := qs) (fun j Γ' => ∃ s : Cst, Le Γ' [vl qs, vl ps, .own (ownN w ad s.1), vl s.2, .no, .no, .no, .no] ∧ s = (qs.take j).foldl (row40 ps) (l, false) ∧ Good40 rs ns ps s.1) (src_list (ev_var 0)) (tg_name 4) ⟨(l, false), by walk_at "le", rfl, hg⟩ (fun j q Γ' hj hI => ?_) (fun Γ' hI => ?_) (pgn 4 sc_law_costs.nd)
  · obtain ⟨s1, le, es, hg1⟩ := hI
    have hqm := List.mem_of_getElem? hj
    have hgood := hP.gd _ (hP.mem hqm)
    refine st_le (Le.set le 4 _) ?_
    refine st_le (Γ' := [vl qs, vl ps, .own (ownN w ad s1.1), vl s1.2, vl q, .no, .no, .no]) (by walk_at "le") ?_
    refine st_for (xs := ps) (fun i Γ' => ∃ s : Cst, Le Γ' [vl qs, vl ps, .own (ownN w ad s.1), vl s.2, vl q, .no, .no, .no] ∧ s = (ps.take i).foldl (fun s p => step40 s q p) s1 ∧ Good40 rs ns ps s.1) (src_list (ev_var 1)) (tg_name 5) ⟨s1, by walk_at "le", rfl, hg1⟩ (fun i p Γ' hi hI => ?_) (fun Γ' hI => ?_) (pgn 5 sc_law_costs.nd)
    · obtain ⟨s, le, es', hgs⟩ := hI
      have hpm := List.mem_of_getElem? hi
      obtain ⟨r, c, hk⟩ := hP.pk p hpm
      obtain ⟨hgn, _⟩ := hP.row hqm s p hpm hgs
      have hlen := hgs.len
      have eN : step40 s q p = (ps.take (i + 1)).foldl (fun s p => step40 s q p) s1 := by
        rw [List.take_add_one, hi, List.foldl_append, ← es']; rfl
      have hs0 : putB s.1 (key40 q p) (comesF s.1 q p) = false → step40 s q p = s := fun h => if_neg (by rw [h]; decide)
      have hs1 : ∀ v, comesF s.1 q p = some v → putB s.1 (key40 q p) (some v) = true → step40 s q p = (put s.1 (key40 q p) v, true) := fun v h h2 => by
        unfold step40
        rw [h, if_pos h2]; rfl
      refine st_le (Le.set le 5 _) ?_
      refine st_le (Γ' := [vl qs, vl ps, .own (ownN w ad s.1), vl s.2, vl q, vl p, .no, .no]) (by walk_at "le") ?_
      refine st_set 6 (x := comesF s.1 q p) (ev_lendO 2 frozN (ev_call (x := comesF s.1 q p) (ok_law_comes T) (hr.mono (by decide)) (ea_cons (x := NDic.mk w s.1) (ev_var 2) (ea_cons (x := q) (ev_var 4) (ea_cons (x := p) (ev_var 5) ea_nil))) fun P' R' h => ⟨s.1, q, p, r, c, rfl, hk, hgood, hok p hpm, h⟩)) ?_ sc_law_costs.nd
      refine st_set 7 (x := key40 q p) (ev_pair (ev_qn (q := q) (ev_var 4) ev_int) (ev_tupL (xs := p) T.b_tuple (ev_var 5))) ?_ sc_law_costs.nd
      cases hc : comesF s.1 q p with
      | none =>
        have e0 := hs0 (by rw [hc]; rfl)
        refine st_if (k := false) (et_eq (et_and (k := false) (m := true) (et_cmp (o_notO (α := Int) (x := none)) (ev_var 6) ev_non) fun h => nomatch h) rfl) (fun h => nomatch h) (fun _ => st_nil (st_nil ⟨s, ?_, by rw [← eN, e0], hgs⟩))
        walk_at "le"
      | some v =>
        cases hl : look s.1 (key40 q p) with
        | none =>
          have e1 := hs1 v hc (by show (match look s.1 (key40 q p) with | none => true | some u => decide (v < u)) = true; rw [hl])
          refine st_if (k := true) (et_lendO 2 frozN (et_eq (et_and (k := true) (m := true) (et_cmp (o_notO (α := Int) (x := some v)) (ev_var 6) ev_non) fun _ => et_eq (et_or (k := true) (m := true) (et_eq (et_cmp (o_notInN (d := NDic.mk w s.1) (hu9 hr) rfl) (ev_var 7) (ev_var 2)) (by rw [hl]; rfl)) fun h => nomatch h) rfl) rfl)) (fun _ => ?_) (fun h => nomatch h)
          refine st_dputN (hu9 hr) 2 (ad := ad) (l := s.1) (x := key40 q p) (y := v) (ev_un (ev_var 6)) (ev_var 7) (lt_line (by omega)) ?_
          refine st_set 3 (x := true) ev_bl (st_nil (st_nil ⟨step40 s q p, ?_, eN, hgn⟩)) sc_law_costs.nd
          rw [e1]
          walk_at "le"
        | some u =>
          by_cases hlt : v < u
          · have e1 := hs1 v hc (by show (match look s.1 (key40 q p) with | none => true | some u => decide (v < u)) = true; rw [hl]; exact decide_eq_true hlt)
            refine st_if (k := true) (et_lendO 2 frozN (et_eq (et_and (k := true) (m := true) (et_cmp (o_notO (α := Int) (x := some v)) (ev_var 6) ev_non) fun _ => et_eq (et_or (k := false) (m := true) (et_eq (et_cmp (o_notInN (d := NDic.mk w s.1) (hu9 hr) rfl) (ev_var 7) (ev_var 2)) (by rw [hl]; rfl)) fun _ => et_eq (et_cmp o_lt (ev_un (x := v) (ev_var 6)) (ev_dgetN (d := NDic.mk w s.1) (hu9 hr) rfl (ev_var 2) (ev_var 7) hl)) (decide_eq_true hlt)) rfl) rfl)) (fun _ => ?_) (fun h => nomatch h)
            refine st_dputN (hu9 hr) 2 (ad := ad) (l := s.1) (x := key40 q p) (y := v) (ev_un (ev_var 6)) (ev_var 7) (lt_line (by omega)) ?_
            refine st_set 3 (x := true) ev_bl (st_nil (st_nil ⟨step40 s q p, ?_, eN, hgn⟩)) sc_law_costs.nd
            rw [e1]
            walk_at "le"
          · have e0 := hs0 (by rw [hc]; show (match look s.1 (key40 q p) with | none => true | some u => decide (v < u)) = false; rw [hl]; exact decide_eq_false hlt)
            refine st_if (k := false) (et_lendO 2 frozN (et_eq (et_and (k := true) (m := false) (et_cmp (o_notO (α := Int) (x := some v)) (ev_var 6) ev_non) fun _ => et_eq (et_or (k := false) (m := false) (et_eq (et_cmp (o_notInN (d := NDic.mk w s.1) (hu9 hr) rfl) (ev_var 7) (ev_var 2)) (by rw [hl]; rfl)) fun _ => et_eq (et_cmp o_lt (ev_un (x := v) (ev_var 6)) (ev_dgetN (d := NDic.mk w s.1) (hu9 hr) rfl (ev_var 2) (ev_var 7) hl)) (decide_eq_false hlt)) rfl) rfl)) (fun h => nomatch h) (fun _ => st_nil (st_nil ⟨s, ?_, by rw [← eN, e0], hgs⟩))
            walk_at "le"
    · obtain ⟨s, le, es', hgs⟩ := hI
      rw [List.take_length] at es'
      refine st_le le (st_nil ⟨s, ?_, ?_, hgs⟩)
      · walk_at "le"
      · rw [List.take_add_one, hj, List.foldl_append, ← es, es']; rfl
  · obtain ⟨s, le, es, hgs⟩ := hI
    rw [List.take_length] at es
    have es : s = pass40 qs ps l := es
    subst es
    cases m with
    | zero => exact hend.elim
    | succ m =>
      refine st_le le (st_nil ⟨m, pass40 qs ps l, Nat.lt_succ_self _, ?_, hgs, fun hb => ?_, hend⟩)
      · walk_at "le"
      · have h2 := hP.fix hg hb
        rw [h2.1]; exact h2.2
end
local macro_rules | `(tactic| walk_at "le") => `(tactic| repeat (first | exact le_nil | refine le_cons ?_ | refine le_no ?_))
noncomputable def signs40S : Tw.Spec := fun A P _ => ∃ (c m : Int), A = [vl c, vl m] ∧ 1 ≤ m ∧ m ≤ 4 ∧ ∀ x : Tx, signsOk x = true → (x.length : Int) ≤ m → P (rv x)
noncomputable abbrev Z4 : List (Nat × Nat) := [(1, 1), (1, 2), (2, 1), (2, 2)]
noncomputable abbrev Z8 : List (Nat × Nat) := [(1, 1), (1, 2), (2, 1), (2, 2), (1, 3), (3, 1), (2, 3), (3, 2)]
noncomputable def zi (z : Nat × Nat) : Int × Int := ((z.1 : Int), (z.2 : Int))
theorem z_small {zs : List (Nat × Nat)} (h : zs = Z4 ∨ zs = Z8) : ∀ z ∈ zs, 1 ≤ z.1 ∧ z.1 ≤ 3 ∧ 1 ≤ z.2 ∧ z.2 ≤ 3 ∧ z.1 * z.2 ≤ 6 := by
  rcases h with rfl | rfl <;> decide
theorem z_nodup {zs : List (Nat × Nat)} (h : zs = Z4 ∨ zs = Z8) : zs.Nodup := by
  rcases h with rfl | rfl <;> decide
theorem z_closed {zs : List (Nat × Nat)} (h : zs = Z4 ∨ zs = Z8) : Zs40 zs := by
  have hs := z_small h
  refine ⟨?_, fun z hz a h1 h2 => ?_, fun z hz a h1 h2 => ?_⟩
  · rcases h with rfl | rfl <;> decide
  · have k : ∀ z ∈ zs, ∀ a, a < z.2 → (1 ≤ a → (z.1, a) ∈ zs) := by
      rcases h with rfl | rfl <;> decide
    have := hs z hz
    exact k z hz a h2 h1
  · have k : ∀ z ∈ zs, ∀ a, a < z.1 → (1 ≤ a → (a, z.2) ∈ zs) := by
      rcases h with rfl | rfl <;> decide
    have := hs z hz
    exact k z hz a h2 h1
noncomputable def pics40 (x : Tx) (zs : List (Nat × Nat)) : List Pic := zs.flatMap fun z => allP x z.1 z.2
theorem allP_len {x : Tx} {r c : Nat} : (allP x r c).length = x.length ^ (r * c) := by
  unfold allP
  rw [List.length_map, textsL_len]
theorem pics40_len {x : Tx} (h1 : 1 ≤ x.length) (h2 : x.length ≤ 2) {zs : List (Nat × Nat)} (h : zs = Z4 ∨ zs = Z8) : (pics40 x zs).length ≤ 170 := by
  unfold pics40
  rw [List.length_flatMap]
  have e : zs.map (fun z => (allP x z.1 z.2).length) = zs.map fun z => x.length ^ (z.1 * z.2) := List.map_congr_left fun z _ => allP_len
  rw [e]
  generalize x.length = s at h1 h2
  rcases (by omega : s = 1 ∨ s = 2) with rfl | rfl <;> rcases h with rfl | rfl <;> decide
theorem pics40_take {x : Tx} {zs : List (Nat × Nat)} (m : Nat) : (pics40 x (zs.take m)).length ≤ (pics40 x zs).length := by
  have e : pics40 x zs = pics40 x (zs.take m) ++ pics40 x (zs.drop m) := by
    unfold pics40
    rw [← List.flatMap_append, List.take_append_drop]
  rw [e, List.length_append]
  omega
theorem pics40_mem {x : Tx} {zs : List (Nat × Nat)} (h : zs = Z4 ∨ zs = Z8) {p : Pic} : p ∈ pics40 x zs ↔ ∃ z ∈ zs, Pk p z.1 z.2 ∧ InSg x p := by
  unfold pics40
  rw [List.mem_flatMap]
  constructor
  · rintro ⟨z, hz, hp⟩
    have := z_small h z hz
    exact ⟨z, hz, (allP_mem (by omega) (by omega) (by omega) (by omega)).mp hp⟩
  · rintro ⟨z, hz, hp⟩
    have := z_small h z hz
    exact ⟨z, hz, (allP_mem (by omega) (by omega) (by omega) (by omega)).mpr hp⟩
theorem pics40_nodup {x : Tx} (hx : x.Nodup) {zs : List (Nat × Nat)} (h : zs = Z4 ∨ zs = Z8) : (pics40 x zs).Nodup := by
  refine nodup_flat (z_nodup h) (fun z _ => allP_nodup hx) fun a ha b hb p hpa hpb => ?_
  have h1 := z_small h a ha
  have h2 := z_small h b hb
  have k1 := ((allP_mem (by omega) (by omega) (by omega) (by omega)).mp hpa).1
  have k2 := ((allP_mem (by omega) (by omega) (by omega) (by omega)).mp hpb).1
  obtain ⟨e1, e2⟩ := k1.uniq k2
  exact Prod.ext e1 e2
noncomputable def due40 (l : Cos) (n : Tx) (z : Int × Int) (p : Pic) : Option (Pic × Int) := if ((p.length : Int), ((p.headD []).length : Int)) = z then (lookN l n p).map fun v => (p, v) else none
theorem due40_fst {l : Cos} {n : Tx} {z : Int × Int} {p : Pic} {x : Pic × Int} (h : due40 l n z p = some x) : x.1 = p ∧ lookN l n p = some x.2 ∧ ((p.length : Int), ((p.headD []).length : Int)) = z := by
  unfold due40 at h
  split at h
  · rename_i e
    cases hl : lookN l n p with
    | none => rw [hl] at h; cases h
    | some v => rw [hl] at h; cases h; exact ⟨rfl, rfl, e⟩
  · cases h
theorem due40_nodup {l : Cos} {n : Tx} {z : Int × Int} : ∀ {ps : List Pic}, ps.Nodup → ((ps.filterMap (due40 l n z)).map (·.1)).Nodup
  | [], _ => List.nodup_nil
  | p :: ps, h => by
    rw [List.nodup_cons] at h
    have ih := due40_nodup (l := l) (n := n) (z := z) h.2
    cases hd : due40 l n z p with
    | none => rw [List.filterMap_cons_none hd]; exact ih
    | some x =>
      rw [List.filterMap_cons_some hd, List.map_cons, List.nodup_cons]
      refine ⟨fun hm => ?_, ih⟩
      obtain ⟨y, hy, e⟩ := List.mem_map.mp hm
      obtain ⟨q, hq, hdq⟩ := List.mem_filterMap.mp hy
      have e1 := (due40_fst hd).1
      have e2 := (due40_fst hdq).1
      rw [e1, e2] at e
      exact h.1 (e ▸ hq)
theorem told40 {g : GramD} (hg : g.Made) {qs : List RowQ} (hrs : g.rules = qs.map RowQ.r) {zs : List (Nat × Nat)} (hz : zs = Z4 ∨ zs = Z8) {ns : List Tx} {l : Cos} (hG : Good40 g.rules ns (pics40 g.signs zs) l) (hF : Fix40 qs (pics40 g.signs zs) l) (hx : g.signs.Nodup) {n : Tx} {r c : Nat} (hrc : (r, c) ∈ zs) {L : List (Pic × Int)} (hL : Told g n r c L) :
    L = ((pics40 g.signs zs).filterMap (due40 l n ((r : Int), (c : Int)))).mergeSort (PySem.W.dataLe false pcD) := by
  have hr := made_rs hg
  refine sorted_ext (told_pair hL) (pc_sorted (due40_nodup (pics40_nodup hx hz))) fun x => ?_
  rw [List.mem_mergeSort, List.mem_filterMap]
  have full : ∀ {p : Pic} {k : Int}, p ∈ pics40 g.signs zs → Der g.rules p n k → ∃ v, v ≤ k ∧ lookN l n p = some v := fun {p k} hp d => fix_all hr hrs (z_closed hz) (fun p => pics40_mem hz) hF d hp
  constructor
  · intro hxL
    obtain ⟨h1, h2, h3⟩ := hL.pk x hxL
    have hp : x.1 ∈ pics40 g.signs zs := (pics40_mem hz).mpr ⟨_, hrc, h1, h2⟩
    obtain ⟨v, hv, hl⟩ := full hp h3
    have hm := ((hL.iff h1).mp hxL).2 v (hG.der hl)
    obtain rfl : v = x.2 := by omega
    refine ⟨x.1, hp, ?_⟩
    unfold due40
    obtain ⟨y, q, e, hy⟩ := h1.hd
    rw [if_pos (by rw [h1.len, e]; show ((r : Int), (y.length : Int)) = _; rw [hy]), hl]
    rfl
  · rintro ⟨p, hp, hd⟩
    obtain ⟨e1, e2, e3⟩ := due40_fst hd
    obtain ⟨z, hz1, hk, hs⟩ := (pics40_mem hz).mp hp
    have hk2 : Pk p r c := by
      obtain ⟨y, q, e, hy⟩ := hk.hd
      have a1 := congrArg Prod.fst e3
      have a2 := congrArg Prod.snd e3
      simp only at a1 a2
      rw [hk.len] at a1
      rw [e] at a2
      have a2 : (y.length : Int) = c := a2
      rw [hy] at a2
      have b1 : z.1 = r := by omega
      have b2 : z.2 = c := by omega
      rw [← b1, ← b2]; exact hk
    have : (p, x.2) ∈ L := (hL.iff hk2).mpr ⟨hG.der e2, fun k d => by
      obtain ⟨v, hv, hl⟩ := full hp d
      rw [e2] at hl
      cases hl
      exact hv⟩
    rw [← e1] at this
    exact this
section
variable {P : Program} {w : World} {K : PySem.W.Frag} {mg : Str → Option Value} {base : Heap}
theorem ok_law_signs2 (T : Txt K mg) : Has P w K mg base 1 "_law_signs" ["_law_cell_here", "_law_most"] signs40S := by
  refine Has.of (k := 0) T.f_law_signs sc_law_signs (fun A Q R ⟨c, m, e, _⟩ => by rw [e]; rfl) fun f cdv A outer s0 H E hr Γ Q R ⟨c, m, e, hm1, hm4, hq⟩ => ?_
  subst e
  have a1 := Int.emod_nonneg (c / 104) (by decide : (6 : Int) ≠ 0)
  have a2 := Int.emod_lt_of_pos (c / 104) (by decide : (0 : Int) < 6)
  have a3 := Int.emod_nonneg (c % 4) (by omega : m ≠ 0)
  have a4 := Int.emod_lt_of_pos (c % 4) (by omega : 0 < m)
  have a5 := Int.emod_nonneg (c / 4) (by decide : (26 : Int) ≠ 0)
  have a6 := Int.emod_lt_of_pos (c / 4) (by decide : (0 : Int) < 26)
  refine st_set 2 (x := smallTx) (ev_str "abcdefghijklmnopqrstuvwxyz") ?_ sc_law_signs.nd
  refine st_set 3 (x := 1 + 2 * (c / 104 % 6)) (ev_bin o_add ev_int (ev_bin (o_mul mulL) ev_int (ev_bin (o_mod (by decide)) (ev_bin (o_div divK) (ev_var 0) ev_int) ev_int))) ?_ sc_law_signs.nd
  have habc : ∀ m, m < 26 → smallTx[m]? = some (97 + m) := by decide +kernel
  refine st_retV (x := (rng 0 (1 + c % 4 % m).toNat).map fun k => 97 + ((c / 4 + (1 + 2 * (c / 104 % 6)) * k) % 26).toNat) (ev_eq (ev_join (xs := (rng 0 (1 + c % 4 % m).toNat).map fun k => ([97 + ((c / 4 + (1 + 2 * (c / 104 % 6)) * k) % 26).toNat] : Tx)) (ev_str "") (ev_of_en (en_lc (α := Int) (β := Tx) (own := [("_law_k", 4)]) (f := fun k => ([97 + ((c / 4 + (1 + 2 * (c / 104 % 6)) * k) % 26).toNat] : Tx)) (src_range (n := 1 + c % 4 % m) T.b_range (ev_bin o_add ev_int (ev_bin (o_mod (by omega)) (ev_bin (o_mod (by decide)) (ev_var 0) ev_int) (ev_var 1))) (by omega) (by omega)) (tg_name 4) (fun _ _ _ _ _ => pgn 4 sc_law_signs.nd) (fun k hk _ _ _ _ _ => ev_ixS (x := smallTx) (ev_var 2) (ev_bin (o_mod (by decide)) (ev_bin o_add (ev_bin (o_div divK) (ev_var 0) ev_int) (ev_bin (o_mul (x := 1 + 2 * (c / 104 % 6)) (y := k) (.inl ⟨by omega, by omega⟩)) (ev_var 3) (ev_var 4))) ev_int) ?_ (sl_small (by decide))) sc_law_signs.nd (ok := bk_law_signs (by decide +kernel)) (hz := by rw [rng_len]; exact sl_small (by omega)))) ?_) ?_) (hq _ ?_ ?_)
  · have b1 := Int.emod_nonneg (c / 4 + (1 + 2 * (c / 104 % 6)) * k) (by decide : (26 : Int) ≠ 0)
    have b2 := Int.emod_lt_of_pos (c / 4 + (1 + 2 * (c / 104 % 6)) * k) (by decide : (0 : Int) < 26)
    have := atI_nat (habc ((c / 4 + (1 + 2 * (c / 104 % 6)) * k) % 26).toNat (by omega))
    rwa [show ((((c / 4 + (1 + 2 * (c / 104 % 6)) * k) % 26).toNat : Nat) : Int) = (c / 4 + (1 + 2 * (c / 104 % 6)) * k) % 26 by omega] at this
  · show _ + _ * 0 ≤ _
    rw [sum_ones, rng_len]; omega
  · show joinL [] _ = _
    rw [show (rng 0 (1 + c % 4 % m).toNat).map (fun k => ([97 + ((c / 4 + (1 + 2 * (c / 104 % 6)) * k) % 26).toNat] : Tx)) = ((rng 0 (1 + c % 4 % m).toNat).map fun k => 97 + ((c / 4 + (1 + 2 * (c / 104 % 6)) * k) % 26).toNat).map fun c => ([c] : Tx) by rw [List.map_map]; rfl, joinL_one]
  · refine signs_good (c / 4 % 26).toNat (c / 104 % 6).toNat (1 + c % 4 % m).toNat (by omega) (by omega) (by omega) (by omega) ?_
    unfold rng
    rw [List.map_map]
    refine List.map_congr_left fun k hk => ?_
    have hk4 : k < 4 := by have := List.mem_range.mp hk; omega
    show 97 + ((c / 4 + (1 + 2 * (c / 104 % 6)) * (0 + (k : Int))) % 26).toNat = 97 + ((c / 4 % 26).toNat + k * (1 + 2 * (c / 104 % 6).toNat)) % 26
    obtain ⟨a, ha⟩ : ∃ a : Nat, c / 4 % 26 = (a : Int) := ⟨(c / 4 % 26).toNat, by omega⟩
    obtain ⟨st, hst⟩ : ∃ s : Nat, c / 104 % 6 = (s : Int) := ⟨(c / 104 % 6).toNat, by omega⟩
    rw [ha, hst, Int.toNat_natCast, Int.toNat_natCast]
    rcases (by omega : k = 0 ∨ k = 1 ∨ k = 2 ∨ k = 3) with rfl | rfl | rfl | rfl <;> omega
  · rw [List.length_map, rng_len]; omega
end
local macro_rules | `(tactic| walk_at "le") => `(tactic| repeat (first | exact le_nil | refine le_cons ?_ | refine le_no ?_))
section
variable {P : Program} {w : World} {K : PySem.W.Frag} {mg : Str → Option Value} {base : Heap}
theorem body_law (T : Txt K mg) : BodyOk P w K mg base 94 "law" s_law N_law ["_law_script"] lawS := by
  intro f cdv A outer s0 H E hr Γ Q R ⟨s, e, hs, hq⟩
  subst e
  refine st_setEx 1 (i := repTx) (G := fun x : Tx => signsOk x = true ∧ (x.length : Int) ≤ 2) (ex_call (ok_law_signs2 T) (hr.mono (by decide)) (ea_cons (x := lawCell s.l 0) (ev_call (ok_law_cell T) (hr.mono (by decide)) (ea_cons (ev_var 0) (ea_cons (x := (0 : Int)) ev_int ea_nil)) fun P R h => ⟨s, 0, rfl, hs, by decide, h⟩) (ea_cons (x := (2 : Int)) ev_int ea_nil)) fun P' R' h => ⟨_, 2, rfl, by decide, by decide, fun x hx hl => h _ ⟨x, ⟨hx, hl⟩, rfl⟩⟩) (fun signs hsg2 => ?_) sc_law.nd
  obtain ⟨hsg, hs2⟩ := hsg2
  refine st_setEx 2 (i := repList) (G := fun ns : List Tx => ns.length = 4 ∧ ∀ n ∈ ns, isName n = true) (exv_of_exn (ex_call (ok_law_names T) (hr.mono (by decide)) (ea_cons (x := lawCell s.l 1) (ev_call (ok_law_cell T) (hr.mono (by decide)) (ea_cons (ev_var 0) (ea_cons (x := (1 : Int)) ev_int ea_nil)) fun P R h => ⟨s, 1, rfl, hs, by decide, h⟩) ea_nil) fun P' R' h => ⟨_, rfl, fun ns h1 h2 => h _ ⟨ns, ⟨h1, h2⟩, rfl⟩⟩)) (fun names hnn => ?_) sc_law.nd
  obtain ⟨hn4, hnm⟩ := hnn
  have hcl := cellsL_len (s := s.l) (b := 2) (m := 10) (by decide)
  have hcl1 : 1 ≤ (cellsL s.l 2 10).length := by
    have h1 := Int.emod_nonneg (lawCell s.l 62) (by decide : (10 : Int) ≠ 0)
    have h2 := Int.emod_lt_of_pos (lawCell s.l 62) (by decide : (0 : Int) < 10)
    unfold cellsL
    rw [List.length_map, rng_len]
    omega
  have e10 : (10 : Int).toNat = 10 := rfl
  refine st_setLcEx 3 (α := Int) (β := RowQ) (j := repRowQ) (own := [("_law_cell_here", 14)]) (G := fun q : RowQ => DrawnQ names signs q.r) (src_list (xs := cellsL s.l 2 10) (ev_of_en (en_call (ok_law_cells T) (hr.mono (by decide)) (ea_cons (ev_var 0) (ea_cons (x := (2 : Int)) ev_int (ea_cons (x := (10 : Int)) ev_int ea_nil))) fun P' R' h => ⟨s, 2, 10, rfl, hs, by decide, by decide, by decide, by decide, h⟩))) (tg_name 14) (fun _ _ _ _ _ => pgn 14 sc_law.nd)
    (fun k hk _ _ _ _ _ => ex_call (ok_law_drawn T) (hr.mono (by decide)) (ea_cons (ev_var 14) (ea_cons (ev_var 1) (ea_cons (ev_var 2) ea_nil))) fun P' R' h => ⟨_, signs, names, rfl, hsg, hn4, hnm, fun q g => h _ ⟨q, g, rfl⟩⟩) sc_law.nd (sl_small (by omega)) (fun ad rules hrl hrd => ?_) (ok := bk_law (by decide +kernel))
  refine st_freeze 3 frozL ?_
  have hsl := signsOk_len hsg
  have hsgl : 1 ≤ signs.length ∧ signs.length ≤ 2 := by omega
  refine st_setN 4 (xs := [((1 : Int), (1 : Int)), (1, 2), (2, 1), (2, 2)]) (en_lst (es_cons (ev_pair ev_int ev_int) (es_cons (ev_pair ev_int ev_int) (es_cons (ev_pair ev_int ev_int) (es_cons (ev_pair ev_int ev_int) es_nil))))) (fun a4 => ?_) sc_law.nd
  refine st_freeze 4 frozL ?_
  refine st_le (Γ' := [vl s, vl signs, vl names, vl rules, vl (Z4.map zi), .no, .no, .no, .no, .no, .no, .no, .no, .no, .no]) (by walk_at "le") ?_
  refine st_ifJ (ι := List (Nat × Nat)) (fun zs => [vl s, vl signs, vl names, vl rules, vl (zs.map zi), .no, .no, .no, .no, .no, .no, .no, .no, .no, .no]) (fun zs => zs = Z4 ∨ zs = Z8) (k := decide (lawCell s.l 0 / 1024 % 4 = 1)) (et_cmp o_eq (ev_bin (o_mod (by decide)) (ev_bin (o_div divK) (ev_call (x := lawCell s.l 0) (ok_law_cell T) (hr.mono (by decide)) (ea_cons (ev_var 0) (ea_cons (x := (0 : Int)) ev_int ea_nil)) fun P R h => ⟨s, 0, rfl, hs, by decide, h⟩) ev_int) ev_int) ev_int) (fun _ => ?_) (fun _ => st_nil ⟨Z4, Le.refl, .inl rfl⟩) (fun zs hzs => ?_)
  · refine st_setN 4 (xs := Z4.map zi ++ [((1 : Int), (3 : Int)), (3, 1), (2, 3), (3, 2)]) (en_addL (ev_var (x := Z4.map zi) 4) (ev_of_en (en_lst (es_cons (ev_pair ev_int ev_int) (es_cons (ev_pair ev_int ev_int) (es_cons (ev_pair ev_int ev_int) (es_cons (ev_pair ev_int ev_int) es_nil)))))) (sl_small (by decide))) (fun a4 => ?_) sc_law.nd
    refine st_freeze 4 frozL (st_nil ⟨Z8, ?_, .inr rfl⟩)
    walk_at "le"
  have hzl : zs.length ≤ 8 := by rcases hzs with rfl | rfl <;> decide
  have hzm := z_small hzs
  have hpl := pics40_len hsgl.1 hsgl.2 hzs
  refine st_setN 5 (xs := ([] : List Pic)) (en_nil Pic) (fun a5 => ?_) sc_law.nd
  refine st_for (xs := zs.map zi) (fun m Γ' => Le Γ' [vl s, vl signs, vl names, vl rules, vl (zs.map zi), .lst repPic a5 (pics40 signs (zs.take m)), .no, .no, .no, .no, .no, .no, .no, .no, .no]) (src_list (ev_var 4)) (tg_name 6) (by walk_at "le") (fun m x Γ' hm le => ?_) (fun Γ' le => ?_) (pgn 6 sc_law.nd)
  · rw [List.getElem?_map] at hm
    obtain ⟨z, hz, rfl⟩ := Option.map_eq_some_iff.mp hm
    obtain ⟨z1, z2, z3, z4, z6⟩ := hzm z (List.mem_of_getElem? hz)
    have hsnoc : pics40 signs (zs.take (m + 1)) = pics40 signs (zs.take m) ++ allP signs z.1 z.2 := by
      unfold pics40
      rw [List.take_add_one, hz, List.flatMap_append, Option.toList_some, List.flatMap_singleton]
    have hl1 := pics40_take (x := signs) (zs := zs) (m + 1)
    rw [hsnoc, List.length_append] at hl1
    have hp6 : signs.length ^ (z.1 * z.2) ≤ 1000 := Nat.le_trans (Nat.le_trans (Nat.pow_le_pow_left hsgl.2 _) (Nat.pow_le_pow_right (by decide) z6)) (by decide)
    refine st_le (Le.set le 6 _) ?_
    refine st_extend 5 (ad := a5) (xs := pics40 signs (zs.take m)) (ys := allP signs z.1 z.2) (en_call (ok_law_all T) (hr.mono (by decide)) (ea_cons (x := signs) (ev_var 1) (ea_cons (x := (z.1 : Int)) (ev_fst (x := zi z) (ev_var 6)) (ea_cons (x := (z.2 : Int)) (ev_snd (x := zi z) (ev_var 6)) ea_nil))) fun P' R' h => ⟨signs, z.1, z.2, rfl, by omega, by omega, z1, by omega, z3, by omega, hp6, h⟩) (st_nil ?_) (sl_small (by omega))
    rw [hsnoc]
    walk_at "le"
  rw [List.length_map, List.take_length] at le
  refine st_le le ?_
  refine st_freeze 5 frozL ?_
  obtain ⟨n0, hn0, hm0⟩ := list_atI (xs := names) (n := 0) (by decide) (by omega)
  have hnl0 := isName_len (hnm n0 hm0)
  have hgood : ∀ q ∈ rules, q.r.good = true := fun q hq' => (hrd q hq').good
  have hgoodr : ∀ r ∈ rules.map RowQ.r, r.good = true := fun r hr' => by obtain ⟨q, hq', rfl⟩ := List.mem_map.mp hr'; exact hgood q hq'
  have hwhy : whyG signs n0 (rules.map RowQ.r) = none := why_drawn (names := names) hsg (hnm n0 hm0) hm0 (by omega) (by rw [List.length_map]; omega) fun r hr' => by
    obtain ⟨q, hq', rfl⟩ := List.mem_map.mp hr'
    exact ⟨(hrd q hq').of, (hrd q hq').nm⟩
  have hg0 : (mkG signs n0 (rules.map RowQ.r)).Made := GramD.Made.mk' hgoodr hwhy
  have hgn : ∀ q ∈ rules, q.r.name ∈ (mkG signs n0 (rules.map RowQ.r)).names := fun q hqm => metAll_mem.mpr (.inr ⟨q.r, List.mem_map.mpr ⟨q, hqm, rfl⟩, List.mem_cons_self ..⟩)
  have hgsg : (mkG signs n0 (rules.map RowQ.r)).signs = signs := rfl
  have hgr : (mkG signs n0 (rules.map RowQ.r)).rules = rules.map RowQ.r := rfl
  obtain ⟨g, eg⟩ : ∃ g, g = mkG signs n0 (rules.map RowQ.r) := ⟨_, rfl⟩
  have hsmall : ∀ p ∈ pics40 signs zs, ∀ y ∈ p, TxOk y := fun p hp y hy k hk => by
    obtain ⟨z, _, _, hs⟩ := (pics40_mem hzs).mp hp
    have hss := (made_signs hg0).2.2
    have := small_lt k (hss k (hs y hy k hk))
    omega
  have hpre : Pre40 (rules.map RowQ.r) names (pics40 signs zs) rules := ⟨rfl, hgoodr, fun q hqm => (hrd q hqm).nm _ (List.mem_cons_self ..), fun p hp => by
    obtain ⟨z, _, hk, _⟩ := (pics40_mem hzs).mp hp
    exact ⟨_, _, hk⟩⟩
  refine st_setO 7 (ex_call (P := fun r' => r' = .own fun o => ∃ ad l, Good40 (rules.map RowQ.r) names (pics40 signs zs) l ∧ Fix40 rules (pics40 signs zs) l ∧ o = ownN w ad l) (ok_law_costs T) (hr.mono (by decide)) (ea_cons (x := rules) (ev_var 3) (ea_cons (x := pics40 signs zs) (ev_var 5) ea_nil)) fun P' R' h' => ⟨rules.map RowQ.r, names, rules, pics40 signs zs, rfl, hpre, by rw [hn4]; omega, hsmall, h' _ rfl⟩) (fun o ⟨a7, l, hG, hF, eo⟩ => ?_) sc_law.nd
  subst eo
  refine st_freeze 7 (x := NDic.mk w l) frozN ?_
  refine st_set 8 (x := g) (ev_call (ok_law_grammar T) (hr.mono (by decide)) (ea_cons (x := signs) (ev_var 1) (ea_cons (x := n0) (ev_ixL (xs := names) (ev_var 2) ev_int hn0) (ea_cons (x := rules) (ev_var 3) ea_nil))) fun P' R' h => ⟨signs, n0, rules, rfl, by omega, hnl0, by omega, hgood, hwhy, by rw [← eg]; exact h⟩) ?_ sc_law.nd
  rw [← eg] at hg0 hgn hgsg hgr
  have hG : Good40 g.rules names (pics40 g.signs zs) l := by rw [hgr, hgsg]; exact hG
  have hF : Fix40 rules (pics40 g.signs zs) l := by rw [hgsg]; exact hF
  have hndg : g.signs.Nodup := by
    have h := hg0.ok.sg
    unfold signsOk at h
    simp only [Bool.and_eq_true, decide_eq_true_eq, List.all_eq_true] at h
    exact h.2.1
  obtain ⟨q1, hq1a, hq1m⟩ := list_atI (xs := rules) (Int.emod_nonneg (lawCell s.l 1 / 3) (by omega : (rules.length : Int) ≠ 0)) (Int.emod_lt_of_pos (lawCell s.l 1 / 3) (by omega : (0 : Int) < rules.length))
  obtain ⟨q2, hq2a, hq2m⟩ := list_atI (xs := rules) (Int.emod_nonneg (lawCell s.l 1 / 64) (by omega : (rules.length : Int) ≠ 0)) (Int.emod_lt_of_pos (lawCell s.l 1 / 64) (by omega : (0 : Int) < rules.length))
  refine st_set 9 (x := q1.r.name) (ev_qn (q := q1) (ev_ixL (xs := rules) (ev_var 3) (ev_bin (o_mod (y := (rules.length : Int)) (by omega)) (ev_bin (o_div divK) (ev_call (x := lawCell s.l 1) (ok_law_cell T) (hr.mono (by decide)) (ea_cons (ev_var 0) (ea_cons (x := (1 : Int)) ev_int ea_nil)) fun P R h => ⟨s, 1, rfl, hs, by decide, h⟩) ev_int) (ev_len T.b_len (ev_var (x := rules) 3))) hq1a) ev_int) ?_ sc_law.nd
  refine st_set 10 (x := q2.r.name) (ev_qn (q := q2) (ev_ixL (xs := rules) (ev_var 3) (ev_bin (o_mod (y := (rules.length : Int)) (by omega)) (ev_bin (o_div divK) (ev_call (x := lawCell s.l 1) (ok_law_cell T) (hr.mono (by decide)) (ea_cons (ev_var 0) (ea_cons (x := (1 : Int)) ev_int ea_nil)) fun P R h => ⟨s, 1, rfl, hs, by decide, h⟩) ev_int) (ev_len T.b_len (ev_var (x := rules) 3))) hq2a) ev_int) ?_ sc_law.nd
  have hn1 := hgn q1 hq1m
  have hn2 := hgn q2 hq2m
  generalize q1.r.name = m1 at hn1
  generalize q2.r.name = m2 at hn2
  refine st_le (Γ' := [.no, .no, .no, .no, vl (zs.map zi), vl (pics40 signs zs), .no, vl (NDic.mk w l), vl g, vl m1, vl m2, .no, .no, .no, .no]) (by walk_at "le") ?_
  have hs170 : ∀ n z k, (((pics40 signs zs).take k).filterMap (due40 l n z)).length ≤ 170 := fun n z k => by
    have h1 := List.length_filterMap_le (due40 l n z) ((pics40 signs zs).take k)
    rw [List.length_take] at h1
    omega
  refine st_for (xs := zs.map zi) (fun m Γ' => Le Γ' [.no, .no, .no, .no, vl (zs.map zi), vl (pics40 signs zs), .no, vl (NDic.mk w l), vl g, vl m1, vl m2, .no, .no, .no, .no]) (src_list (ev_var 4)) (tg_name 6) (by walk_at "le") (fun m x Γ' hm le => ?_) (fun Γ' le => st_le le (st_retV ev_bl hq)) (pgn 6 sc_law.nd)
  rw [List.getElem?_map] at hm
  obtain ⟨z, hz, rfl⟩ := Option.map_eq_some_iff.mp hm
  have hzmem := List.mem_of_getElem? hz
  obtain ⟨z1, z2, z3, z4, z6⟩ := hzm z hzmem
  refine st_le (Le.set le 6 _) ?_
  refine st_le (Γ' := [.no, .no, .no, .no, vl (zs.map zi), vl (pics40 signs zs), vl (zi z), vl (NDic.mk w l), vl g, vl m1, vl m2, .no, .no, .no, .no]) (by walk_at "le") ?_
  refine st_for (xs := [m1, m2, m1]) (fun m Γ' => Le Γ' [.no, .no, .no, .no, vl (zs.map zi), vl (pics40 signs zs), vl (zi z), vl (NDic.mk w l), vl g, vl m1, vl m2, .no, .no, .no, .no]) (src_tup (xs := Tup.mk [m1, m2, m1]) (ev_tupH (es_cons (ev_var 9) (es_cons (ev_var 10) (es_cons (ev_var 9) es_nil))))) (tg_name 11) (by walk_at "le") (fun j n Γ' hj le => ?_) (fun Γ' le => st_le le (st_nil (by walk_at "le"))) (pgn 11 sc_law.nd)
  have hnn : n ∈ g.names := by
    have := List.mem_of_getElem? hj
    simp only [List.mem_cons, List.not_mem_nil, or_false] at this
    rcases this with rfl | rfl | rfl <;> assumption
  refine st_le (Le.set le 11 _) ?_
  refine st_le (Γ' := [.no, .no, .no, .no, vl (zs.map zi), vl (pics40 signs zs), vl (zi z), vl (NDic.mk w l), vl g, vl m1, vl m2, vl n, .no, .no, .no]) (by walk_at "le") ?_
  refine st_setN 12 (xs := ([] : List (Pic × Int))) (en_nil (Pic × Int)) (fun a12 => ?_) sc_law.nd
  refine st_for (xs := pics40 signs zs) (fun k Γ' => Le Γ' [.no, .no, .no, .no, vl (zs.map zi), vl (pics40 signs zs), vl (zi z), vl (NDic.mk w l), vl g, vl m1, vl m2, vl n, .lst (inferInstance : Rep (Pic × Int)) a12 (((pics40 signs zs).take k).filterMap (due40 l n (zi z))), .no, .no]) (src_list (ev_var 5)) (tg_name 13) (by walk_at "le") (fun k p Γ' hk le => ?_) (fun Γ' le => ?_) (pgn 13 sc_law.nd)
  · have hpm := List.mem_of_getElem? hk
    obtain ⟨y, _, hpk, _⟩ := (pics40_mem hzs).mp hpm
    have hr6 := hpk.r6
    have hc6 := hpk.c6
    obtain ⟨hp0, hp1⟩ := hpk.head
    have hl := hs170 n (zi z) k
    refine st_le (Le.set le 13 _) ?_
    refine st_le (Γ' := [.no, .no, .no, .no, vl (zs.map zi), vl (pics40 signs zs), vl (zi z), vl (NDic.mk w l), vl g, vl m1, vl m2, vl n, .lst (inferInstance : Rep (Pic × Int)) a12 (((pics40 signs zs).take k).filterMap (due40 l n (zi z))), vl p, .no]) (by walk_at "le") ?_
    have hsnoc : ∀ o, due40 l n (zi z) p = o → ((pics40 signs zs).take (k + 1)).filterMap (due40 l n (zi z)) = ((pics40 signs zs).take k).filterMap (due40 l n (zi z)) ++ o.toList := fun o ho => by
      rw [List.take_add_one, hk, List.filterMap_append, Option.toList_some, List.filterMap_cons, ho]
      cases o <;> rfl
    have hdue : due40 l n (zi z) p = if ((p.length : Int), ((p.headD []).length : Int)) = zi z then (lookN l n p).map fun v => (p, v) else none := rfl
    by_cases hsz : ((p.length : Int), ((p.headD []).length : Int)) = zi z
    · rw [if_pos hsz] at hdue
      cases hlk : lookN l n p with
      | none =>
        rw [hlk] at hdue
        refine st_if (k := false) (et_eq (et_and (k := true) (m := false) (et_eq (et_cmp (o_eqD (x := ((p.length : Int), ((p.headD []).length : Int))) (y := zi z) hr ⟨trivial, trivial⟩ ⟨trivial, trivial⟩) (ev_pair (ev_len T.b_len (ev_var (x := p) 13)) (ev_lenS T.b_len (ev_ixL (xs := p) (ev_var 13) ev_int hp0) (sl6 (by omega)))) (ev_var 6)) (decide_eq_true hsz)) fun _ => et_eq (et_cmp (o_inN (x := ((n, Tup.mk p) : KNm)) (d := NDic.mk w l) (hu9 hr) rfl) (ev_pair (ev_var 11) (ev_tupL (xs := p) T.b_tuple (ev_var 13))) (ev_var 7)) (by rw [show look (NDic.mk w l).l ((n, Tup.mk p) : KNm) = none from hlk]; rfl)) rfl) (fun h => nomatch h) (fun _ => st_nil (st_nil ?_))
        rw [hsnoc _ hdue]
        show Le _ [.no, .no, .no, .no, vl (zs.map zi), vl (pics40 signs zs), vl (zi z), vl (NDic.mk w l), vl g, vl m1, vl m2, vl n, .lst (inferInstance : Rep (Pic × Int)) a12 (((pics40 signs zs).take k).filterMap (due40 l n (zi z)) ++ []), .no, .no]
        rw [List.append_nil]
        walk_at "le"
      | some v =>
        rw [hlk] at hdue
        refine st_if (k := true) (et_eq (et_and (k := true) (m := true) (et_eq (et_cmp (o_eqD (x := ((p.length : Int), ((p.headD []).length : Int))) (y := zi z) hr ⟨trivial, trivial⟩ ⟨trivial, trivial⟩) (ev_pair (ev_len T.b_len (ev_var (x := p) 13)) (ev_lenS T.b_len (ev_ixL (xs := p) (ev_var 13) ev_int hp0) (sl6 (by omega)))) (ev_var 6)) (decide_eq_true hsz)) fun _ => et_eq (et_cmp (o_inN (x := ((n, Tup.mk p) : KNm)) (d := NDic.mk w l) (hu9 hr) rfl) (ev_pair (ev_var 11) (ev_tupL (xs := p) T.b_tuple (ev_var 13))) (ev_var 7)) (by rw [show look (NDic.mk w l).l ((n, Tup.mk p) : KNm) = some v from hlk]; rfl)) rfl) (fun _ => ?_) (fun h => nomatch h)
        refine st_append 12 (ad := a12) (xs := ((pics40 signs zs).take k).filterMap (due40 l n (zi z))) (x := (p, v)) (ev_pair (ev_var 13) (ev_dgetN (d := NDic.mk w l) (x := ((n, Tup.mk p) : KNm)) (hu9 hr) rfl (ev_var 7) (ev_pair (ev_var 11) (ev_tupL (xs := p) T.b_tuple (ev_var 13))) hlk)) (st_nil (st_nil ?_)) (lt_line (by omega))
        rw [hsnoc _ hdue]
        walk_at "le"
    · rw [if_neg hsz] at hdue
      refine st_if (k := false) (et_eq (et_and (k := false) (m := false) (et_eq (et_cmp (o_eqD (x := ((p.length : Int), ((p.headD []).length : Int))) (y := zi z) hr ⟨trivial, trivial⟩ ⟨trivial, trivial⟩) (ev_pair (ev_len T.b_len (ev_var (x := p) 13)) (ev_lenS T.b_len (ev_ixL (xs := p) (ev_var 13) ev_int hp0) (sl6 (by omega)))) (ev_var 6)) (decide_eq_false hsz)) fun h => nomatch h) rfl) (fun h => nomatch h) (fun _ => st_nil (st_nil ?_))
      rw [hsnoc _ hdue]
      show Le _ [.no, .no, .no, .no, vl (zs.map zi), vl (pics40 signs zs), vl (zi z), vl (NDic.mk w l), vl g, vl m1, vl m2, vl n, .lst (inferInstance : Rep (Pic × Int)) a12 (((pics40 signs zs).take k).filterMap (due40 l n (zi z)) ++ []), .no, .no]
      rw [List.append_nil]
      walk_at "le"
  rw [List.take_length] at le
  refine st_le le ?_
  refine st_freeze 12 frozL ?_
  have htold : ∀ L, Told g n z.1 z.2 L → L = ((pics40 signs zs).filterMap (due40 l n (zi z))).mergeSort (PySem.W.dataLe false pcD) := fun L hL => by
    have := told40 hg0 hgr hzs hG hF hndg (r := z.1) (c := z.2) hzmem hL
    rw [hgsg] at this
    exact this
  have hPic : PicsPre g z.1 z.2 := ⟨hg0, z1, by omega, z3, by omega⟩
  have hpow : g.signs.length ^ (z.1 * z.2) ≤ 300 := by
    rw [hgsg]
    exact Nat.le_trans (Nat.le_trans (Nat.pow_le_pow_left hsgl.2 _) (Nat.pow_le_pow_right (by decide) z6)) (by decide)
  have hDok : ∀ x ∈ ((pics40 signs zs).filterMap (due40 l n (zi z))).mergeSort (PySem.W.dataLe false pcD), (∀ y ∈ x.1, TxOk y) ∧ True := fun x hx => by
    rw [List.mem_mergeSort, List.mem_filterMap] at hx
    obtain ⟨p, hp, hd⟩ := hx
    rw [(due40_fst hd).1]
    exact ⟨hsmall p hp, trivial⟩
  refine st_if (k := false) (et_eq (et_cmp (o_neD (x := ((pics40 signs zs).filterMap (due40 l n (zi z))).mergeSort (PySem.W.dataLe false pcD)) (y := ((pics40 signs zs).filterMap (due40 l n (zi z))).mergeSort (PySem.W.dataLe false pcD)) hr hDok hDok) (ev_of_en (en_call (ok_pictures_of T) (hr.mono (by decide)) (ea_cons (x := g) (ev_var 8) (ea_cons (x := n) (ev_var 11) (ea_cons (x := (z.1 : Int)) (ev_fst (x := zi z) (ev_var 6)) (ea_cons (x := (z.2 : Int)) (ev_snd (x := zi z) (ev_var 6)) ea_nil)))) fun P' R' h => ⟨g, n, z.1, z.2, rfl, hPic, fun y => absurd hnn y, fun _ y => absurd y (Nat.not_lt.mpr hpow), fun _ _ L hL => by rw [htold L hL]; exact h⟩)) (ev_of_en (en_sortedA (xs := (pics40 signs zs).filterMap (due40 l n (zi z))) T.b_sorted hr (ev_var 12) (pcD_alike _) (pcD_sortable _) (fun x _ => pcD_depth x)))) (by rw [decide_eq_true rfl]; rfl)) (fun h => nomatch h) (fun _ => st_nil (st_nil ?_))
  walk_at "le"
end
theorem ar1 {P : List Value → Prop} (h : ∀ a0, P [a0]) (us : List Value) (hl : us.length = 1) : P us := match us, hl with | [a0], _ => h a0
theorem ar2 {P : List Value → Prop} (h : ∀ a0 a1, P [a0, a1]) (us : List Value) (hl : us.length = 2) : P us := match us, hl with | [a0, a1], _ => h a0 a1
theorem ar3 {P : List Value → Prop} (h : ∀ a0 a1 a2, P [a0, a1, a2]) (us : List Value) (hl : us.length = 3) : P us := match us, hl with | [a0, a1, a2], _ => h a0 a1 a2
theorem ar4 {P : List Value → Prop} (h : ∀ a0 a1 a2 a3, P [a0, a1, a2, a3]) (us : List Value) (hl : us.length = 4) : P us := match us, hl with | [a0, a1, a2, a3], _ => h a0 a1 a2 a3
theorem ar5 {P : List Value → Prop} (h : ∀ a0 a1 a2 a3 a4, P [a0, a1, a2, a3, a4]) (us : List Value) (hl : us.length = 5) : P us := match us, hl with | [a0, a1, a2, a3, a4], _ => h a0 a1 a2 a3 a4
theorem df_of {K : PySem.W.Frag} {h : Heap} {mg : Str → Option Value} {n : Str} {st : Stmt} {ps : List Str} {f : Addr} {oc : Value} {od an : Option Addr} {osl : Array (Option Value)} {kV doc pm cdv ct : Value} (X : K.In h) (G : h.Ns mainGlobals mg) (a : PySem.W.nsIn K mainGlobals n = some (some (.ref f))) (l : K.lookup f = some ⟨oc, od, .func (PySem.W.fnOf n n (defArgs st) (defBody st) (defScope st) .none kV doc pm an cdv ct), osl⟩)
    (c : PySem.W.codeIn K cdv n = true) (k : PySem.W.keepIn K (.ref f) = true)
    (hb : ∀ (kV doc pm : Value) (an : Option Addr) (cdv ct : Value) (us : List Value), us.length = ps.length → bindArgs (PySem.W.fnOf n n (defArgs st) (defBody st) (defScope st) .none kV doc pm an cdv ct) ⟨us, []⟩ = pure (ps.zip us)) : Df K mg n st ps :=
  ⟨f, _, fun_mk l c k, (fun_mk (st := st) l c k).binds hb, PySem.W.mg_of X G a⟩
theorem txt_mk {K : PySem.W.Frag} {h : Heap} {mg : Str → Option Value} (X : K.In h) (G : h.Ns mainGlobals mg)
    (zb_ValueError : PySem.W.nsIn K mainGlobals "ValueError" = some none)
    (zb_all : PySem.W.nsIn K mainGlobals "all" = some none)
    (zb_bool : PySem.W.nsIn K mainGlobals "bool" = some none)
    (zb_enumerate : PySem.W.nsIn K mainGlobals "enumerate" = some none)
    (zb_int : PySem.W.nsIn K mainGlobals "int" = some none)
    (zb_isinstance : PySem.W.nsIn K mainGlobals "isinstance" = some none)
    (zb_len : PySem.W.nsIn K mainGlobals "len" = some none)
    (zb_list : PySem.W.nsIn K mainGlobals "list" = some none)
    (zb_max : PySem.W.nsIn K mainGlobals "max" = some none)
    (zb_min : PySem.W.nsIn K mainGlobals "min" = some none)
    (zb_range : PySem.W.nsIn K mainGlobals "range" = some none)
    (zb_reversed : PySem.W.nsIn K mainGlobals "reversed" = some none)
    (zb_set : PySem.W.nsIn K mainGlobals "set" = some none)
    (zb_sorted : PySem.W.nsIn K mainGlobals "sorted" = some none)
    (zb_str : PySem.W.nsIn K mainGlobals "str" = some none)
    (zb_tuple : PySem.W.nsIn K mainGlobals "tuple" = some none)
    (zb_zip : PySem.W.nsIn K mainGlobals "zip" = some none)
    {t_MOST : Tok} (zc_MOST : PySem.W.nsIn K mainGlobals "MOST" = some (some (.int 6 t_MOST)))
    {t_MIRROR : Tok} (zc_MIRROR : PySem.W.nsIn K mainGlobals "MIRROR" = some (some (.int 4 t_MIRROR)))
    {t_CAPITALS : Tok} (zc_CAPITALS : PySem.W.nsIn K mainGlobals "CAPITALS" = some (some (.str (Str.ofString "ABCDEFGHIJKLMNOPQRSTUVWXYZ") t_CAPITALS)))
    {t_SMALL : Tok} (zc_SMALL : PySem.W.nsIn K mainGlobals "SMALL" = some (some (.str (Str.ofString "abcdefghijklmnopqrstuvwxyz") t_SMALL)))
    {t_MOST_LETTERS : Tok} (zc_MOST_LETTERS : PySem.W.nsIn K mainGlobals "MOST_LETTERS" = some (some (.int 4 t_MOST_LETTERS)))
    {t_MOST_COST : Tok} (zc_MOST_COST : PySem.W.nsIn K mainGlobals "MOST_COST" = some (some (.int 9 t_MOST_COST)))
    {t_MOST_PICTURES : Tok} (zc_MOST_PICTURES : PySem.W.nsIn K mainGlobals "MOST_PICTURES" = some (some (.int 300 t_MOST_PICTURES)))
    {t_MOST_SIGNS : Tok} (zc_MOST_SIGNS : PySem.W.nsIn K mainGlobals "MOST_SIGNS" = some (some (.int 4 t_MOST_SIGNS)))
    {t_MOST_RULES : Tok} (zc_MOST_RULES : PySem.W.nsIn K mainGlobals "MOST_RULES" = some (some (.int 24 t_MOST_RULES)))
    {t_MOST_NAMES : Tok} (zc_MOST_NAMES : PySem.W.nsIn K mainGlobals "MOST_NAMES" = some (some (.int 8 t_MOST_NAMES)))
    (xn : PySem.W.specialIn K (.builtin "object.__class__") "__get__" = some (some (.builtin "getset_descriptor.__get__")))
    (xq : PySem.W.takesIn K (.builtin "object.__class__") = some true)
    {C_NoFit : Addr}
    (xa_NoFit : PySem.W.nsIn K mainGlobals "NoFit" = some (some (.ref C_NoFit)))
    (xk_NoFit : PySem.W.keepIn K (.ref C_NoFit) = true)
    (xt_NoFit : PySem.W.typeIn K (.ref C_NoFit) = some (.type "type"))
    (xg_NoFit : PySem.W.findIn K (.ref C_NoFit) "__getattribute__" = some (some (.builtin "BaseException.__getattribute__")))
    (xh_NoFit : PySem.W.findIn K (.ref C_NoFit) "__getattr__" = some none)
    (xs_NoFit : PySem.W.subIn K (.ref C_NoFit) (.type "BaseException") = some true)
    (xd_NoFit : PySem.W.hasDictIn K C_NoFit = true)
    (xc_NoFit : PySem.W.findIn K (.ref C_NoFit) "__class__" = some (some (.builtin "object.__class__")))
    (xm_NoFit : PySem.W.mroIn K C_NoFit (.type "object") = some true)
    {C_NoRule : Addr}
    (xa_NoRule : PySem.W.nsIn K mainGlobals "NoRule" = some (some (.ref C_NoRule)))
    (xk_NoRule : PySem.W.keepIn K (.ref C_NoRule) = true)
    (xt_NoRule : PySem.W.typeIn K (.ref C_NoRule) = some (.type "type"))
    (xg_NoRule : PySem.W.findIn K (.ref C_NoRule) "__getattribute__" = some (some (.builtin "BaseException.__getattribute__")))
    (xh_NoRule : PySem.W.findIn K (.ref C_NoRule) "__getattr__" = some none)
    (xs_NoRule : PySem.W.subIn K (.ref C_NoRule) (.type "BaseException") = some true)
    (xd_NoRule : PySem.W.hasDictIn K C_NoRule = true)
    (xc_NoRule : PySem.W.findIn K (.ref C_NoRule) "__class__" = some (some (.builtin "object.__class__")))
    (xm_NoRule : PySem.W.mroIn K C_NoRule (.type "object") = some true)
    {C_NoGrammar : Addr}
    (xa_NoGrammar : PySem.W.nsIn K mainGlobals "NoGrammar" = some (some (.ref C_NoGrammar)))
    (xk_NoGrammar : PySem.W.keepIn K (.ref C_NoGrammar) = true)
    (xt_NoGrammar : PySem.W.typeIn K (.ref C_NoGrammar) = some (.type "type"))
    (xg_NoGrammar : PySem.W.findIn K (.ref C_NoGrammar) "__getattribute__" = some (some (.builtin "BaseException.__getattribute__")))
    (xh_NoGrammar : PySem.W.findIn K (.ref C_NoGrammar) "__getattr__" = some none)
    (xs_NoGrammar : PySem.W.subIn K (.ref C_NoGrammar) (.type "BaseException") = some true)
    (xd_NoGrammar : PySem.W.hasDictIn K C_NoGrammar = true)
    (xc_NoGrammar : PySem.W.findIn K (.ref C_NoGrammar) "__class__" = some (some (.builtin "object.__class__")))
    (xm_NoGrammar : PySem.W.mroIn K C_NoGrammar (.type "object") = some true)
    {C_NoName : Addr}
    (xa_NoName : PySem.W.nsIn K mainGlobals "NoName" = some (some (.ref C_NoName)))
    (xk_NoName : PySem.W.keepIn K (.ref C_NoName) = true)
    (xt_NoName : PySem.W.typeIn K (.ref C_NoName) = some (.type "type"))
    (xg_NoName : PySem.W.findIn K (.ref C_NoName) "__getattribute__" = some (some (.builtin "BaseException.__getattribute__")))
    (xh_NoName : PySem.W.findIn K (.ref C_NoName) "__getattr__" = some none)
    (xs_NoName : PySem.W.subIn K (.ref C_NoName) (.type "BaseException") = some true)
    (xd_NoName : PySem.W.hasDictIn K C_NoName = true)
    (xc_NoName : PySem.W.findIn K (.ref C_NoName) "__class__" = some (some (.builtin "object.__class__")))
    (xm_NoName : PySem.W.mroIn K C_NoName (.type "object") = some true)
    {C_TooMany : Addr}
    (xa_TooMany : PySem.W.nsIn K mainGlobals "TooMany" = some (some (.ref C_TooMany)))
    (xk_TooMany : PySem.W.keepIn K (.ref C_TooMany) = true)
    (xt_TooMany : PySem.W.typeIn K (.ref C_TooMany) = some (.type "type"))
    (xg_TooMany : PySem.W.findIn K (.ref C_TooMany) "__getattribute__" = some (some (.builtin "BaseException.__getattribute__")))
    (xh_TooMany : PySem.W.findIn K (.ref C_TooMany) "__getattr__" = some none)
    (xs_TooMany : PySem.W.subIn K (.ref C_TooMany) (.type "BaseException") = some true)
    (xd_TooMany : PySem.W.hasDictIn K C_TooMany = true)
    (xc_TooMany : PySem.W.findIn K (.ref C_TooMany) "__class__" = some (some (.builtin "object.__class__")))
    (xm_TooMany : PySem.W.mroIn K C_TooMany (.type "object") = some true)
    {C_QuiltError : Addr}
    (xa_QuiltError : PySem.W.nsIn K mainGlobals "QuiltError" = some (some (.ref C_QuiltError)))
    (xk_QuiltError : PySem.W.keepIn K (.ref C_QuiltError) = true)
    (xt_QuiltError : PySem.W.typeIn K (.ref C_QuiltError) = some (.type "type"))
    (xg_QuiltError : PySem.W.findIn K (.ref C_QuiltError) "__getattribute__" = some (some (.builtin "BaseException.__getattribute__")))
    (xh_QuiltError : PySem.W.findIn K (.ref C_QuiltError) "__getattr__" = some none)
    (xs_QuiltError : PySem.W.subIn K (.ref C_QuiltError) (.type "BaseException") = some true)
    (xd_QuiltError : PySem.W.hasDictIn K C_QuiltError = true)
    (xc_QuiltError : PySem.W.findIn K (.ref C_QuiltError) "__class__" = some (some (.builtin "object.__class__")))
    (xm_QuiltError : PySem.W.mroIn K C_QuiltError (.type "object") = some true)
    (xp_NoFit : PySem.W.excIn K C_NoFit [.type "ValueError", .type "Exception", .type "BaseException", .type "object"] "ValueError.__new__" = true)
    (xp_NoRule : PySem.W.excIn K C_NoRule [.type "ValueError", .type "Exception", .type "BaseException", .type "object"] "ValueError.__new__" = true)
    {nm_NoGrammar qn_NoGrammar : Str} {NN_NoGrammar fI_NoGrammar : Addr} {bs_NoGrammar bm_NoGrammar : List Value} {sn_NoGrammar : List Str} {su_NoGrammar : List Value} {ab_NoGrammar : Bool} {col_NoGrammar : _} {dd_NoGrammar : Option Addr} {k0_NoGrammar k1_NoGrammar k2_NoGrammar k3_NoGrammar k5_NoGrammar : Option Value}
    (xl_NoGrammar : K.lookup C_NoGrammar = some (excClassObj nm_NoGrammar qn_NoGrammar C_NoGrammar NN_NoGrammar bs_NoGrammar bm_NoGrammar true sn_NoGrammar su_NoGrammar ab_NoGrammar col_NoGrammar dd_NoGrammar k0_NoGrammar k1_NoGrammar k2_NoGrammar k3_NoGrammar k5_NoGrammar "ValueError.__new__"))
    (xv_NoGrammar : PySem.HandSPX.refsVE bm_NoGrammar = true)
    (xw_NoGrammar : PySem.W.findIn K (.ref C_NoGrammar) "__setattr__" = some (some (.builtin "object.__setattr__")))
    (xf_NoGrammar : PySem.W.findIn K (.ref C_NoGrammar) "why" = some none)
    (xi_NoGrammar : PySem.W.findIn K (.ref C_NoGrammar) "__init__" = some (some (.ref fI_NoGrammar)))
    (xj_NoGrammar : PySem.W.typeIn K (.ref fI_NoGrammar) = some (.type "function"))
    {od_iNoGrammar an_iNoGrammar : Option Addr} {sl_iNoGrammar : Array (Option Value)} {oc_iNoGrammar kV_iNoGrammar dc_iNoGrammar pm_iNoGrammar cd_iNoGrammar ct_iNoGrammar : Value}
    (xo_NoGrammar : K.lookup fI_NoGrammar = some ⟨oc_iNoGrammar, od_iNoGrammar, .func (PySem.W.fnOf "__init__" "NoGrammar.__init__" (defArgs s_NoGrammar_init) (defBody s_NoGrammar_init) (defScope s_NoGrammar_init) .none kV_iNoGrammar dc_iNoGrammar pm_iNoGrammar an_iNoGrammar cd_iNoGrammar ct_iNoGrammar), sl_iNoGrammar⟩)
    (xu_NoGrammar : PySem.W.codeIn K cd_iNoGrammar "NoGrammar.__init__" = true)
    (xz_NoGrammar : PySem.W.keepIn K (.ref fI_NoGrammar) = true)
    (xp_TooMany : PySem.W.excIn K C_TooMany [.type "ValueError", .type "Exception", .type "BaseException", .type "object"] "ValueError.__new__" = true)
    (xp_NoName : PySem.W.excIn K C_NoName [.type "ValueError", .type "Exception", .type "BaseException", .type "object"] "ValueError.__new__" = true)
    (qs_QuiltError : PySem.W.specialIn K (.ref C_QuiltError) "__getattribute__" = some (some (.builtin "type.__getattribute__")))
    (qr_QuiltError : PySem.W.readsIn K C_QuiltError (.type "type") = true)
    (qf_QuiltError : PySem.W.findCls K (.ref C_QuiltError) (.type "type") "__init__" = some (.val (.builtin "ValueError.__init__")))
    {O_Rule : Addr}
    (oa_Rule : PySem.W.nsIn K mainGlobals "Rule" = some (some (.ref O_Rule)))
    (ob_Rule : PySem.W.plainGet K O_Rule Str.empty = true)
    (oc_Rule : PySem.W.hasDictIn K O_Rule = true)
    (od_Rule : PySem.W.plainOver K O_Rule = true)
    (oe_Rule : PySem.W.findIn K (.ref O_Rule) "__setattr__" = some (some (.builtin "object.__setattr__")))
    (of_Rule : PySem.W.makesIn K O_Rule = true)
    (og_Rule : PySem.W.keepIn K (.ref O_Rule) = true)
    (oh_Rule : PySem.W.typeIn K (.ref O_Rule) = some (.type "type"))
    (oi_Rule : PySem.W.findIn K (.ref O_Rule) "__class__" = some (some (.builtin "object.__class__")))
    (oj_Rule : PySem.W.mroIn K O_Rule (.type "object") = some true)
    {O_CellRule : Addr}
    (oa_CellRule : PySem.W.nsIn K mainGlobals "CellRule" = some (some (.ref O_CellRule)))
    (ob_CellRule : PySem.W.plainGet K O_CellRule Str.empty = true)
    (oc_CellRule : PySem.W.hasDictIn K O_CellRule = true)
    (od_CellRule : PySem.W.plainOver K O_CellRule = true)
    (oe_CellRule : PySem.W.findIn K (.ref O_CellRule) "__setattr__" = some (some (.builtin "object.__setattr__")))
    (of_CellRule : PySem.W.makesIn K O_CellRule = true)
    (og_CellRule : PySem.W.keepIn K (.ref O_CellRule) = true)
    (oh_CellRule : PySem.W.typeIn K (.ref O_CellRule) = some (.type "type"))
    (oi_CellRule : PySem.W.findIn K (.ref O_CellRule) "__class__" = some (some (.builtin "object.__class__")))
    (oj_CellRule : PySem.W.mroIn K O_CellRule (.type "object") = some true)
    {O_BesideRule : Addr}
    (oa_BesideRule : PySem.W.nsIn K mainGlobals "BesideRule" = some (some (.ref O_BesideRule)))
    (ob_BesideRule : PySem.W.plainGet K O_BesideRule Str.empty = true)
    (oc_BesideRule : PySem.W.hasDictIn K O_BesideRule = true)
    (od_BesideRule : PySem.W.plainOver K O_BesideRule = true)
    (oe_BesideRule : PySem.W.findIn K (.ref O_BesideRule) "__setattr__" = some (some (.builtin "object.__setattr__")))
    (of_BesideRule : PySem.W.makesIn K O_BesideRule = true)
    (og_BesideRule : PySem.W.keepIn K (.ref O_BesideRule) = true)
    (oh_BesideRule : PySem.W.typeIn K (.ref O_BesideRule) = some (.type "type"))
    (oi_BesideRule : PySem.W.findIn K (.ref O_BesideRule) "__class__" = some (some (.builtin "object.__class__")))
    (oj_BesideRule : PySem.W.mroIn K O_BesideRule (.type "object") = some true)
    {O_AboveRule : Addr}
    (oa_AboveRule : PySem.W.nsIn K mainGlobals "AboveRule" = some (some (.ref O_AboveRule)))
    (ob_AboveRule : PySem.W.plainGet K O_AboveRule Str.empty = true)
    (oc_AboveRule : PySem.W.hasDictIn K O_AboveRule = true)
    (od_AboveRule : PySem.W.plainOver K O_AboveRule = true)
    (oe_AboveRule : PySem.W.findIn K (.ref O_AboveRule) "__setattr__" = some (some (.builtin "object.__setattr__")))
    (of_AboveRule : PySem.W.makesIn K O_AboveRule = true)
    (og_AboveRule : PySem.W.keepIn K (.ref O_AboveRule) = true)
    (oh_AboveRule : PySem.W.typeIn K (.ref O_AboveRule) = some (.type "type"))
    (oi_AboveRule : PySem.W.findIn K (.ref O_AboveRule) "__class__" = some (some (.builtin "object.__class__")))
    (oj_AboveRule : PySem.W.mroIn K O_AboveRule (.type "object") = some true)
    {O_TurnRule : Addr}
    (oa_TurnRule : PySem.W.nsIn K mainGlobals "TurnRule" = some (some (.ref O_TurnRule)))
    (ob_TurnRule : PySem.W.plainGet K O_TurnRule Str.empty = true)
    (oc_TurnRule : PySem.W.hasDictIn K O_TurnRule = true)
    (od_TurnRule : PySem.W.plainOver K O_TurnRule = true)
    (oe_TurnRule : PySem.W.findIn K (.ref O_TurnRule) "__setattr__" = some (some (.builtin "object.__setattr__")))
    (of_TurnRule : PySem.W.makesIn K O_TurnRule = true)
    (og_TurnRule : PySem.W.keepIn K (.ref O_TurnRule) = true)
    (oh_TurnRule : PySem.W.typeIn K (.ref O_TurnRule) = some (.type "type"))
    (oi_TurnRule : PySem.W.findIn K (.ref O_TurnRule) "__class__" = some (some (.builtin "object.__class__")))
    (oj_TurnRule : PySem.W.mroIn K O_TurnRule (.type "object") = some true)
    {O_Sizes : Addr}
    (oa_Sizes : PySem.W.nsIn K mainGlobals "Sizes" = some (some (.ref O_Sizes)))
    (ob_Sizes : PySem.W.plainGet K O_Sizes Str.empty = true)
    (oc_Sizes : PySem.W.hasDictIn K O_Sizes = true)
    (od_Sizes : PySem.W.plainOver K O_Sizes = true)
    (oe_Sizes : PySem.W.findIn K (.ref O_Sizes) "__setattr__" = some (some (.builtin "object.__setattr__")))
    (of_Sizes : PySem.W.makesIn K O_Sizes = true)
    (og_Sizes : PySem.W.keepIn K (.ref O_Sizes) = true)
    (oh_Sizes : PySem.W.typeIn K (.ref O_Sizes) = some (.type "type"))
    (oi_Sizes : PySem.W.findIn K (.ref O_Sizes) "__class__" = some (some (.builtin "object.__class__")))
    (oj_Sizes : PySem.W.mroIn K O_Sizes (.type "object") = some true)
    {O_Grammar : Addr}
    (oa_Grammar : PySem.W.nsIn K mainGlobals "Grammar" = some (some (.ref O_Grammar)))
    (ob_Grammar : PySem.W.plainGet K O_Grammar Str.empty = true)
    (oc_Grammar : PySem.W.hasDictIn K O_Grammar = true)
    (od_Grammar : PySem.W.plainOver K O_Grammar = true)
    (oe_Grammar : PySem.W.findIn K (.ref O_Grammar) "__setattr__" = some (some (.builtin "object.__setattr__")))
    (of_Grammar : PySem.W.makesIn K O_Grammar = true)
    (og_Grammar : PySem.W.keepIn K (.ref O_Grammar) = true)
    (oh_Grammar : PySem.W.typeIn K (.ref O_Grammar) = some (.type "type"))
    (oi_Grammar : PySem.W.findIn K (.ref O_Grammar) "__class__" = some (some (.builtin "object.__class__")))
    (oj_Grammar : PySem.W.mroIn K O_Grammar (.type "object") = some true)
    (na_Rule_name : PySem.W.findIn K (.ref O_Rule) "name" = some none)
    (na_Rule_cost : PySem.W.findIn K (.ref O_Rule) "cost" = some none)
    {g_Rule_init : Addr} {god_Rule_init gan_Rule_init : Option Addr} {gsl_Rule_init : Array (Option Value)} {goc_Rule_init gkV_Rule_init gdc_Rule_init gpm_Rule_init gcd_Rule_init gct_Rule_init : Value}
    (ma_Rule_init : PySem.W.findIn K (.ref O_Rule) "__init__" = some (some (.ref g_Rule_init)))
    (ml_Rule_init : K.lookup g_Rule_init = some ⟨goc_Rule_init, god_Rule_init, .func (PySem.W.fnOf "__init__" "Rule.__init__" (defArgs s_Rule_init) (defBody s_Rule_init) (defScope s_Rule_init) .none gkV_Rule_init gdc_Rule_init gpm_Rule_init gan_Rule_init gcd_Rule_init gct_Rule_init), gsl_Rule_init⟩)
    (mc_Rule_init : PySem.W.codeIn K gcd_Rule_init "Rule.__init__" = true)
    (mk_Rule_init : PySem.W.keepIn K (.ref g_Rule_init) = true)
    (mf_Rule_init : PySem.W.isFn K (.ref g_Rule_init) = true)
    (na_CellRule_sign : PySem.W.findIn K (.ref O_CellRule) "sign" = some none)
    (na_CellRule_name : PySem.W.findIn K (.ref O_CellRule) "name" = some none)
    (na_CellRule_cost : PySem.W.findIn K (.ref O_CellRule) "cost" = some none)
    {g_CellRule_init : Addr} {god_CellRule_init gan_CellRule_init : Option Addr} {gsl_CellRule_init : Array (Option Value)} {goc_CellRule_init gkV_CellRule_init gdc_CellRule_init gpm_CellRule_init gcd_CellRule_init gct_CellRule_init : Value}
    (ma_CellRule_init : PySem.W.findIn K (.ref O_CellRule) "__init__" = some (some (.ref g_CellRule_init)))
    (ml_CellRule_init : K.lookup g_CellRule_init = some ⟨goc_CellRule_init, god_CellRule_init, .func (PySem.W.fnOf "__init__" "CellRule.__init__" (defArgs s_CellRule_init) (defBody s_CellRule_init) (defScope s_CellRule_init) .none gkV_CellRule_init gdc_CellRule_init gpm_CellRule_init gan_CellRule_init gcd_CellRule_init gct_CellRule_init), gsl_CellRule_init⟩)
    (mc_CellRule_init : PySem.W.codeIn K gcd_CellRule_init "CellRule.__init__" = true)
    (mk_CellRule_init : PySem.W.keepIn K (.ref g_CellRule_init) = true)
    (mf_CellRule_init : PySem.W.isFn K (.ref g_CellRule_init) = true)
    {g_CellRule_made : Addr} {god_CellRule_made gan_CellRule_made : Option Addr} {gsl_CellRule_made : Array (Option Value)} {goc_CellRule_made gkV_CellRule_made gdc_CellRule_made gpm_CellRule_made gcd_CellRule_made gct_CellRule_made : Value}
    (ma_CellRule_made : PySem.W.findIn K (.ref O_CellRule) "made" = some (some (.ref g_CellRule_made)))
    (ml_CellRule_made : K.lookup g_CellRule_made = some ⟨goc_CellRule_made, god_CellRule_made, .func (PySem.W.fnOf "made" "CellRule.made" (defArgs s_CellRule_made) (defBody s_CellRule_made) (defScope s_CellRule_made) .none gkV_CellRule_made gdc_CellRule_made gpm_CellRule_made gan_CellRule_made gcd_CellRule_made gct_CellRule_made), gsl_CellRule_made⟩)
    (mc_CellRule_made : PySem.W.codeIn K gcd_CellRule_made "CellRule.made" = true)
    (mk_CellRule_made : PySem.W.keepIn K (.ref g_CellRule_made) = true)
    (mf_CellRule_made : PySem.W.isFn K (.ref g_CellRule_made) = true)
    {g_CellRule_told : Addr} {god_CellRule_told gan_CellRule_told : Option Addr} {gsl_CellRule_told : Array (Option Value)} {goc_CellRule_told gkV_CellRule_told gdc_CellRule_told gpm_CellRule_told gcd_CellRule_told gct_CellRule_told : Value}
    (ma_CellRule_told : PySem.W.findIn K (.ref O_CellRule) "told" = some (some (.ref g_CellRule_told)))
    (ml_CellRule_told : K.lookup g_CellRule_told = some ⟨goc_CellRule_told, god_CellRule_told, .func (PySem.W.fnOf "told" "CellRule.told" (defArgs s_CellRule_told) (defBody s_CellRule_told) (defScope s_CellRule_told) .none gkV_CellRule_told gdc_CellRule_told gpm_CellRule_told gan_CellRule_told gcd_CellRule_told gct_CellRule_told), gsl_CellRule_told⟩)
    (mc_CellRule_told : PySem.W.codeIn K gcd_CellRule_told "CellRule.told" = true)
    (mk_CellRule_told : PySem.W.keepIn K (.ref g_CellRule_told) = true)
    (mf_CellRule_told : PySem.W.isFn K (.ref g_CellRule_told) = true)
    {g_Rule_parts : Addr} {god_Rule_parts gan_Rule_parts : Option Addr} {gsl_Rule_parts : Array (Option Value)} {goc_Rule_parts gkV_Rule_parts gdc_Rule_parts gpm_Rule_parts gcd_Rule_parts gct_Rule_parts : Value}
    (ma_CellRule_parts : PySem.W.findIn K (.ref O_CellRule) "parts" = some (some (.ref g_Rule_parts)))
    (ml_Rule_parts : K.lookup g_Rule_parts = some ⟨goc_Rule_parts, god_Rule_parts, .func (PySem.W.fnOf "parts" "Rule.parts" (defArgs s_Rule_parts) (defBody s_Rule_parts) (defScope s_Rule_parts) .none gkV_Rule_parts gdc_Rule_parts gpm_Rule_parts gan_Rule_parts gcd_Rule_parts gct_Rule_parts), gsl_Rule_parts⟩)
    (mc_Rule_parts : PySem.W.codeIn K gcd_Rule_parts "Rule.parts" = true)
    (mk_Rule_parts : PySem.W.keepIn K (.ref g_Rule_parts) = true)
    (mf_Rule_parts : PySem.W.isFn K (.ref g_Rule_parts) = true)
    {g_Rule_begun : Addr} {god_Rule_begun gan_Rule_begun : Option Addr} {gsl_Rule_begun : Array (Option Value)} {goc_Rule_begun gkV_Rule_begun gdc_Rule_begun gpm_Rule_begun gcd_Rule_begun gct_Rule_begun : Value}
    (ma_CellRule_begun : PySem.W.findIn K (.ref O_CellRule) "begun" = some (some (.ref g_Rule_begun)))
    (ml_Rule_begun : K.lookup g_Rule_begun = some ⟨goc_Rule_begun, god_Rule_begun, .func (PySem.W.fnOf "begun" "Rule.begun" (defArgs s_Rule_begun) (defBody s_Rule_begun) (defScope s_Rule_begun) .none gkV_Rule_begun gdc_Rule_begun gpm_Rule_begun gan_Rule_begun gcd_Rule_begun gct_Rule_begun), gsl_Rule_begun⟩)
    (mc_Rule_begun : PySem.W.codeIn K gcd_Rule_begun "Rule.begun" = true)
    (mk_Rule_begun : PySem.W.keepIn K (.ref g_Rule_begun) = true)
    (mf_Rule_begun : PySem.W.isFn K (.ref g_Rule_begun) = true)
    (na_BesideRule_one : PySem.W.findIn K (.ref O_BesideRule) "one" = some none)
    (na_BesideRule_other : PySem.W.findIn K (.ref O_BesideRule) "other" = some none)
    (na_BesideRule_name : PySem.W.findIn K (.ref O_BesideRule) "name" = some none)
    (na_BesideRule_cost : PySem.W.findIn K (.ref O_BesideRule) "cost" = some none)
    {g_BesideRule_init : Addr} {god_BesideRule_init gan_BesideRule_init : Option Addr} {gsl_BesideRule_init : Array (Option Value)} {goc_BesideRule_init gkV_BesideRule_init gdc_BesideRule_init gpm_BesideRule_init gcd_BesideRule_init gct_BesideRule_init : Value}
    (ma_BesideRule_init : PySem.W.findIn K (.ref O_BesideRule) "__init__" = some (some (.ref g_BesideRule_init)))
    (ml_BesideRule_init : K.lookup g_BesideRule_init = some ⟨goc_BesideRule_init, god_BesideRule_init, .func (PySem.W.fnOf "__init__" "BesideRule.__init__" (defArgs s_BesideRule_init) (defBody s_BesideRule_init) (defScope s_BesideRule_init) .none gkV_BesideRule_init gdc_BesideRule_init gpm_BesideRule_init gan_BesideRule_init gcd_BesideRule_init gct_BesideRule_init), gsl_BesideRule_init⟩)
    (mc_BesideRule_init : PySem.W.codeIn K gcd_BesideRule_init "BesideRule.__init__" = true)
    (mk_BesideRule_init : PySem.W.keepIn K (.ref g_BesideRule_init) = true)
    (mf_BesideRule_init : PySem.W.isFn K (.ref g_BesideRule_init) = true)
    {g_BesideRule_parts : Addr} {god_BesideRule_parts gan_BesideRule_parts : Option Addr} {gsl_BesideRule_parts : Array (Option Value)} {goc_BesideRule_parts gkV_BesideRule_parts gdc_BesideRule_parts gpm_BesideRule_parts gcd_BesideRule_parts gct_BesideRule_parts : Value}
    (ma_BesideRule_parts : PySem.W.findIn K (.ref O_BesideRule) "parts" = some (some (.ref g_BesideRule_parts)))
    (ml_BesideRule_parts : K.lookup g_BesideRule_parts = some ⟨goc_BesideRule_parts, god_BesideRule_parts, .func (PySem.W.fnOf "parts" "BesideRule.parts" (defArgs s_BesideRule_parts) (defBody s_BesideRule_parts) (defScope s_BesideRule_parts) .none gkV_BesideRule_parts gdc_BesideRule_parts gpm_BesideRule_parts gan_BesideRule_parts gcd_BesideRule_parts gct_BesideRule_parts), gsl_BesideRule_parts⟩)
    (mc_BesideRule_parts : PySem.W.codeIn K gcd_BesideRule_parts "BesideRule.parts" = true)
    (mk_BesideRule_parts : PySem.W.keepIn K (.ref g_BesideRule_parts) = true)
    (mf_BesideRule_parts : PySem.W.isFn K (.ref g_BesideRule_parts) = true)
    {g_BesideRule_made : Addr} {god_BesideRule_made gan_BesideRule_made : Option Addr} {gsl_BesideRule_made : Array (Option Value)} {goc_BesideRule_made gkV_BesideRule_made gdc_BesideRule_made gpm_BesideRule_made gcd_BesideRule_made gct_BesideRule_made : Value}
    (ma_BesideRule_made : PySem.W.findIn K (.ref O_BesideRule) "made" = some (some (.ref g_BesideRule_made)))
    (ml_BesideRule_made : K.lookup g_BesideRule_made = some ⟨goc_BesideRule_made, god_BesideRule_made, .func (PySem.W.fnOf "made" "BesideRule.made" (defArgs s_BesideRule_made) (defBody s_BesideRule_made) (defScope s_BesideRule_made) .none gkV_BesideRule_made gdc_BesideRule_made gpm_BesideRule_made gan_BesideRule_made gcd_BesideRule_made gct_BesideRule_made), gsl_BesideRule_made⟩)
    (mc_BesideRule_made : PySem.W.codeIn K gcd_BesideRule_made "BesideRule.made" = true)
    (mk_BesideRule_made : PySem.W.keepIn K (.ref g_BesideRule_made) = true)
    (mf_BesideRule_made : PySem.W.isFn K (.ref g_BesideRule_made) = true)
    {g_BesideRule_told : Addr} {god_BesideRule_told gan_BesideRule_told : Option Addr} {gsl_BesideRule_told : Array (Option Value)} {goc_BesideRule_told gkV_BesideRule_told gdc_BesideRule_told gpm_BesideRule_told gcd_BesideRule_told gct_BesideRule_told : Value}
    (ma_BesideRule_told : PySem.W.findIn K (.ref O_BesideRule) "told" = some (some (.ref g_BesideRule_told)))
    (ml_BesideRule_told : K.lookup g_BesideRule_told = some ⟨goc_BesideRule_told, god_BesideRule_told, .func (PySem.W.fnOf "told" "BesideRule.told" (defArgs s_BesideRule_told) (defBody s_BesideRule_told) (defScope s_BesideRule_told) .none gkV_BesideRule_told gdc_BesideRule_told gpm_BesideRule_told gan_BesideRule_told gcd_BesideRule_told gct_BesideRule_told), gsl_BesideRule_told⟩)
    (mc_BesideRule_told : PySem.W.codeIn K gcd_BesideRule_told "BesideRule.told" = true)
    (mk_BesideRule_told : PySem.W.keepIn K (.ref g_BesideRule_told) = true)
    (mf_BesideRule_told : PySem.W.isFn K (.ref g_BesideRule_told) = true)
    (ma_BesideRule_begun : PySem.W.findIn K (.ref O_BesideRule) "begun" = some (some (.ref g_Rule_begun)))
    (na_AboveRule_one : PySem.W.findIn K (.ref O_AboveRule) "one" = some none)
    (na_AboveRule_other : PySem.W.findIn K (.ref O_AboveRule) "other" = some none)
    (na_AboveRule_name : PySem.W.findIn K (.ref O_AboveRule) "name" = some none)
    (na_AboveRule_cost : PySem.W.findIn K (.ref O_AboveRule) "cost" = some none)
    {g_AboveRule_init : Addr} {god_AboveRule_init gan_AboveRule_init : Option Addr} {gsl_AboveRule_init : Array (Option Value)} {goc_AboveRule_init gkV_AboveRule_init gdc_AboveRule_init gpm_AboveRule_init gcd_AboveRule_init gct_AboveRule_init : Value}
    (ma_AboveRule_init : PySem.W.findIn K (.ref O_AboveRule) "__init__" = some (some (.ref g_AboveRule_init)))
    (ml_AboveRule_init : K.lookup g_AboveRule_init = some ⟨goc_AboveRule_init, god_AboveRule_init, .func (PySem.W.fnOf "__init__" "AboveRule.__init__" (defArgs s_AboveRule_init) (defBody s_AboveRule_init) (defScope s_AboveRule_init) .none gkV_AboveRule_init gdc_AboveRule_init gpm_AboveRule_init gan_AboveRule_init gcd_AboveRule_init gct_AboveRule_init), gsl_AboveRule_init⟩)
    (mc_AboveRule_init : PySem.W.codeIn K gcd_AboveRule_init "AboveRule.__init__" = true)
    (mk_AboveRule_init : PySem.W.keepIn K (.ref g_AboveRule_init) = true)
    (mf_AboveRule_init : PySem.W.isFn K (.ref g_AboveRule_init) = true)
    {g_AboveRule_parts : Addr} {god_AboveRule_parts gan_AboveRule_parts : Option Addr} {gsl_AboveRule_parts : Array (Option Value)} {goc_AboveRule_parts gkV_AboveRule_parts gdc_AboveRule_parts gpm_AboveRule_parts gcd_AboveRule_parts gct_AboveRule_parts : Value}
    (ma_AboveRule_parts : PySem.W.findIn K (.ref O_AboveRule) "parts" = some (some (.ref g_AboveRule_parts)))
    (ml_AboveRule_parts : K.lookup g_AboveRule_parts = some ⟨goc_AboveRule_parts, god_AboveRule_parts, .func (PySem.W.fnOf "parts" "AboveRule.parts" (defArgs s_AboveRule_parts) (defBody s_AboveRule_parts) (defScope s_AboveRule_parts) .none gkV_AboveRule_parts gdc_AboveRule_parts gpm_AboveRule_parts gan_AboveRule_parts gcd_AboveRule_parts gct_AboveRule_parts), gsl_AboveRule_parts⟩)
    (mc_AboveRule_parts : PySem.W.codeIn K gcd_AboveRule_parts "AboveRule.parts" = true)
    (mk_AboveRule_parts : PySem.W.keepIn K (.ref g_AboveRule_parts) = true)
    (mf_AboveRule_parts : PySem.W.isFn K (.ref g_AboveRule_parts) = true)
    {g_AboveRule_made : Addr} {god_AboveRule_made gan_AboveRule_made : Option Addr} {gsl_AboveRule_made : Array (Option Value)} {goc_AboveRule_made gkV_AboveRule_made gdc_AboveRule_made gpm_AboveRule_made gcd_AboveRule_made gct_AboveRule_made : Value}
    (ma_AboveRule_made : PySem.W.findIn K (.ref O_AboveRule) "made" = some (some (.ref g_AboveRule_made)))
    (ml_AboveRule_made : K.lookup g_AboveRule_made = some ⟨goc_AboveRule_made, god_AboveRule_made, .func (PySem.W.fnOf "made" "AboveRule.made" (defArgs s_AboveRule_made) (defBody s_AboveRule_made) (defScope s_AboveRule_made) .none gkV_AboveRule_made gdc_AboveRule_made gpm_AboveRule_made gan_AboveRule_made gcd_AboveRule_made gct_AboveRule_made), gsl_AboveRule_made⟩)
    (mc_AboveRule_made : PySem.W.codeIn K gcd_AboveRule_made "AboveRule.made" = true)
    (mk_AboveRule_made : PySem.W.keepIn K (.ref g_AboveRule_made) = true)
    (mf_AboveRule_made : PySem.W.isFn K (.ref g_AboveRule_made) = true)
    {g_AboveRule_told : Addr} {god_AboveRule_told gan_AboveRule_told : Option Addr} {gsl_AboveRule_told : Array (Option Value)} {goc_AboveRule_told gkV_AboveRule_told gdc_AboveRule_told gpm_AboveRule_told gcd_AboveRule_told gct_AboveRule_told : Value}
    (ma_AboveRule_told : PySem.W.findIn K (.ref O_AboveRule) "told" = some (some (.ref g_AboveRule_told)))
    (ml_AboveRule_told : K.lookup g_AboveRule_told = some ⟨goc_AboveRule_told, god_AboveRule_told, .func (PySem.W.fnOf "told" "AboveRule.told" (defArgs s_AboveRule_told) (defBody s_AboveRule_told) (defScope s_AboveRule_told) .none gkV_AboveRule_told gdc_AboveRule_told gpm_AboveRule_told gan_AboveRule_told gcd_AboveRule_told gct_AboveRule_told), gsl_AboveRule_told⟩)
    (mc_AboveRule_told : PySem.W.codeIn K gcd_AboveRule_told "AboveRule.told" = true)
    (mk_AboveRule_told : PySem.W.keepIn K (.ref g_AboveRule_told) = true)
    (mf_AboveRule_told : PySem.W.isFn K (.ref g_AboveRule_told) = true)
    (ma_AboveRule_begun : PySem.W.findIn K (.ref O_AboveRule) "begun" = some (some (.ref g_Rule_begun)))
    (na_TurnRule_part : PySem.W.findIn K (.ref O_TurnRule) "part" = some none)
    (na_TurnRule_turning : PySem.W.findIn K (.ref O_TurnRule) "turning" = some none)
    (na_TurnRule_name : PySem.W.findIn K (.ref O_TurnRule) "name" = some none)
    (na_TurnRule_cost : PySem.W.findIn K (.ref O_TurnRule) "cost" = some none)
    {g_TurnRule_init : Addr} {god_TurnRule_init gan_TurnRule_init : Option Addr} {gsl_TurnRule_init : Array (Option Value)} {goc_TurnRule_init gkV_TurnRule_init gdc_TurnRule_init gpm_TurnRule_init gcd_TurnRule_init gct_TurnRule_init : Value}
    (ma_TurnRule_init : PySem.W.findIn K (.ref O_TurnRule) "__init__" = some (some (.ref g_TurnRule_init)))
    (ml_TurnRule_init : K.lookup g_TurnRule_init = some ⟨goc_TurnRule_init, god_TurnRule_init, .func (PySem.W.fnOf "__init__" "TurnRule.__init__" (defArgs s_TurnRule_init) (defBody s_TurnRule_init) (defScope s_TurnRule_init) .none gkV_TurnRule_init gdc_TurnRule_init gpm_TurnRule_init gan_TurnRule_init gcd_TurnRule_init gct_TurnRule_init), gsl_TurnRule_init⟩)
    (mc_TurnRule_init : PySem.W.codeIn K gcd_TurnRule_init "TurnRule.__init__" = true)
    (mk_TurnRule_init : PySem.W.keepIn K (.ref g_TurnRule_init) = true)
    (mf_TurnRule_init : PySem.W.isFn K (.ref g_TurnRule_init) = true)
    {g_TurnRule_parts : Addr} {god_TurnRule_parts gan_TurnRule_parts : Option Addr} {gsl_TurnRule_parts : Array (Option Value)} {goc_TurnRule_parts gkV_TurnRule_parts gdc_TurnRule_parts gpm_TurnRule_parts gcd_TurnRule_parts gct_TurnRule_parts : Value}
    (ma_TurnRule_parts : PySem.W.findIn K (.ref O_TurnRule) "parts" = some (some (.ref g_TurnRule_parts)))
    (ml_TurnRule_parts : K.lookup g_TurnRule_parts = some ⟨goc_TurnRule_parts, god_TurnRule_parts, .func (PySem.W.fnOf "parts" "TurnRule.parts" (defArgs s_TurnRule_parts) (defBody s_TurnRule_parts) (defScope s_TurnRule_parts) .none gkV_TurnRule_parts gdc_TurnRule_parts gpm_TurnRule_parts gan_TurnRule_parts gcd_TurnRule_parts gct_TurnRule_parts), gsl_TurnRule_parts⟩)
    (mc_TurnRule_parts : PySem.W.codeIn K gcd_TurnRule_parts "TurnRule.parts" = true)
    (mk_TurnRule_parts : PySem.W.keepIn K (.ref g_TurnRule_parts) = true)
    (mf_TurnRule_parts : PySem.W.isFn K (.ref g_TurnRule_parts) = true)
    {g_TurnRule_made : Addr} {god_TurnRule_made gan_TurnRule_made : Option Addr} {gsl_TurnRule_made : Array (Option Value)} {goc_TurnRule_made gkV_TurnRule_made gdc_TurnRule_made gpm_TurnRule_made gcd_TurnRule_made gct_TurnRule_made : Value}
    (ma_TurnRule_made : PySem.W.findIn K (.ref O_TurnRule) "made" = some (some (.ref g_TurnRule_made)))
    (ml_TurnRule_made : K.lookup g_TurnRule_made = some ⟨goc_TurnRule_made, god_TurnRule_made, .func (PySem.W.fnOf "made" "TurnRule.made" (defArgs s_TurnRule_made) (defBody s_TurnRule_made) (defScope s_TurnRule_made) .none gkV_TurnRule_made gdc_TurnRule_made gpm_TurnRule_made gan_TurnRule_made gcd_TurnRule_made gct_TurnRule_made), gsl_TurnRule_made⟩)
    (mc_TurnRule_made : PySem.W.codeIn K gcd_TurnRule_made "TurnRule.made" = true)
    (mk_TurnRule_made : PySem.W.keepIn K (.ref g_TurnRule_made) = true)
    (mf_TurnRule_made : PySem.W.isFn K (.ref g_TurnRule_made) = true)
    {g_TurnRule_told : Addr} {god_TurnRule_told gan_TurnRule_told : Option Addr} {gsl_TurnRule_told : Array (Option Value)} {goc_TurnRule_told gkV_TurnRule_told gdc_TurnRule_told gpm_TurnRule_told gcd_TurnRule_told gct_TurnRule_told : Value}
    (ma_TurnRule_told : PySem.W.findIn K (.ref O_TurnRule) "told" = some (some (.ref g_TurnRule_told)))
    (ml_TurnRule_told : K.lookup g_TurnRule_told = some ⟨goc_TurnRule_told, god_TurnRule_told, .func (PySem.W.fnOf "told" "TurnRule.told" (defArgs s_TurnRule_told) (defBody s_TurnRule_told) (defScope s_TurnRule_told) .none gkV_TurnRule_told gdc_TurnRule_told gpm_TurnRule_told gan_TurnRule_told gcd_TurnRule_told gct_TurnRule_told), gsl_TurnRule_told⟩)
    (mc_TurnRule_told : PySem.W.codeIn K gcd_TurnRule_told "TurnRule.told" = true)
    (mk_TurnRule_told : PySem.W.keepIn K (.ref g_TurnRule_told) = true)
    (mf_TurnRule_told : PySem.W.isFn K (.ref g_TurnRule_told) = true)
    (ma_TurnRule_begun : PySem.W.findIn K (.ref O_TurnRule) "begun" = some (some (.ref g_Rule_begun)))
    (na_Sizes_grammar : PySem.W.findIn K (.ref O_Sizes) "grammar" = some none)
    (na_Sizes_kept : PySem.W.findIn K (.ref O_Sizes) "kept" = some none)
    {g_Sizes_init : Addr} {god_Sizes_init gan_Sizes_init : Option Addr} {gsl_Sizes_init : Array (Option Value)} {goc_Sizes_init gkV_Sizes_init gdc_Sizes_init gpm_Sizes_init gcd_Sizes_init gct_Sizes_init : Value}
    (ma_Sizes_init : PySem.W.findIn K (.ref O_Sizes) "__init__" = some (some (.ref g_Sizes_init)))
    (ml_Sizes_init : K.lookup g_Sizes_init = some ⟨goc_Sizes_init, god_Sizes_init, .func (PySem.W.fnOf "__init__" "Sizes.__init__" (defArgs s_Sizes_init) (defBody s_Sizes_init) (defScope s_Sizes_init) .none gkV_Sizes_init gdc_Sizes_init gpm_Sizes_init gan_Sizes_init gcd_Sizes_init gct_Sizes_init), gsl_Sizes_init⟩)
    (mc_Sizes_init : PySem.W.codeIn K gcd_Sizes_init "Sizes.__init__" = true)
    (mk_Sizes_init : PySem.W.keepIn K (.ref g_Sizes_init) = true)
    (mf_Sizes_init : PySem.W.isFn K (.ref g_Sizes_init) = true)
    {g_Sizes_put : Addr} {god_Sizes_put gan_Sizes_put : Option Addr} {gsl_Sizes_put : Array (Option Value)} {goc_Sizes_put gkV_Sizes_put gdc_Sizes_put gpm_Sizes_put gcd_Sizes_put gct_Sizes_put : Value}
    (ma_Sizes_put : PySem.W.findIn K (.ref O_Sizes) "put" = some (some (.ref g_Sizes_put)))
    (ml_Sizes_put : K.lookup g_Sizes_put = some ⟨goc_Sizes_put, god_Sizes_put, .func (PySem.W.fnOf "put" "Sizes.put" (defArgs s_Sizes_put) (defBody s_Sizes_put) (defScope s_Sizes_put) .none gkV_Sizes_put gdc_Sizes_put gpm_Sizes_put gan_Sizes_put gcd_Sizes_put gct_Sizes_put), gsl_Sizes_put⟩)
    (mc_Sizes_put : PySem.W.codeIn K gcd_Sizes_put "Sizes.put" = true)
    (mk_Sizes_put : PySem.W.keepIn K (.ref g_Sizes_put) = true)
    (mf_Sizes_put : PySem.W.isFn K (.ref g_Sizes_put) = true)
    {g_Sizes_begun : Addr} {god_Sizes_begun gan_Sizes_begun : Option Addr} {gsl_Sizes_begun : Array (Option Value)} {goc_Sizes_begun gkV_Sizes_begun gdc_Sizes_begun gpm_Sizes_begun gcd_Sizes_begun gct_Sizes_begun : Value}
    (ma_Sizes_begun : PySem.W.findIn K (.ref O_Sizes) "begun" = some (some (.ref g_Sizes_begun)))
    (ml_Sizes_begun : K.lookup g_Sizes_begun = some ⟨goc_Sizes_begun, god_Sizes_begun, .func (PySem.W.fnOf "begun" "Sizes.begun" (defArgs s_Sizes_begun) (defBody s_Sizes_begun) (defScope s_Sizes_begun) .none gkV_Sizes_begun gdc_Sizes_begun gpm_Sizes_begun gan_Sizes_begun gcd_Sizes_begun gct_Sizes_begun), gsl_Sizes_begun⟩)
    (mc_Sizes_begun : PySem.W.codeIn K gcd_Sizes_begun "Sizes.begun" = true)
    (mk_Sizes_begun : PySem.W.keepIn K (.ref g_Sizes_begun) = true)
    (mf_Sizes_begun : PySem.W.isFn K (.ref g_Sizes_begun) = true)
    {g_Sizes_turned_on : Addr} {god_Sizes_turned_on gan_Sizes_turned_on : Option Addr} {gsl_Sizes_turned_on : Array (Option Value)} {goc_Sizes_turned_on gkV_Sizes_turned_on gdc_Sizes_turned_on gpm_Sizes_turned_on gcd_Sizes_turned_on gct_Sizes_turned_on : Value}
    (ma_Sizes_turned_on : PySem.W.findIn K (.ref O_Sizes) "turned_on" = some (some (.ref g_Sizes_turned_on)))
    (ml_Sizes_turned_on : K.lookup g_Sizes_turned_on = some ⟨goc_Sizes_turned_on, god_Sizes_turned_on, .func (PySem.W.fnOf "turned_on" "Sizes.turned_on" (defArgs s_Sizes_turned_on) (defBody s_Sizes_turned_on) (defScope s_Sizes_turned_on) .none gkV_Sizes_turned_on gdc_Sizes_turned_on gpm_Sizes_turned_on gan_Sizes_turned_on gcd_Sizes_turned_on gct_Sizes_turned_on), gsl_Sizes_turned_on⟩)
    (mc_Sizes_turned_on : PySem.W.codeIn K gcd_Sizes_turned_on "Sizes.turned_on" = true)
    (mk_Sizes_turned_on : PySem.W.keepIn K (.ref g_Sizes_turned_on) = true)
    (mf_Sizes_turned_on : PySem.W.isFn K (.ref g_Sizes_turned_on) = true)
    {g_Sizes_fill : Addr} {god_Sizes_fill gan_Sizes_fill : Option Addr} {gsl_Sizes_fill : Array (Option Value)} {goc_Sizes_fill gkV_Sizes_fill gdc_Sizes_fill gpm_Sizes_fill gcd_Sizes_fill gct_Sizes_fill : Value}
    (ma_Sizes_fill : PySem.W.findIn K (.ref O_Sizes) "fill" = some (some (.ref g_Sizes_fill)))
    (ml_Sizes_fill : K.lookup g_Sizes_fill = some ⟨goc_Sizes_fill, god_Sizes_fill, .func (PySem.W.fnOf "fill" "Sizes.fill" (defArgs s_Sizes_fill) (defBody s_Sizes_fill) (defScope s_Sizes_fill) .none gkV_Sizes_fill gdc_Sizes_fill gpm_Sizes_fill gan_Sizes_fill gcd_Sizes_fill gct_Sizes_fill), gsl_Sizes_fill⟩)
    (mc_Sizes_fill : PySem.W.codeIn K gcd_Sizes_fill "Sizes.fill" = true)
    (mk_Sizes_fill : PySem.W.keepIn K (.ref g_Sizes_fill) = true)
    (mf_Sizes_fill : PySem.W.isFn K (.ref g_Sizes_fill) = true)
    (na_Grammar_signs : PySem.W.findIn K (.ref O_Grammar) "signs" = some none)
    (na_Grammar_start : PySem.W.findIn K (.ref O_Grammar) "start" = some none)
    (na_Grammar_kept_rules : PySem.W.findIn K (.ref O_Grammar) "kept_rules" = some none)
    (na_Grammar_kept_names : PySem.W.findIn K (.ref O_Grammar) "kept_names" = some none)
    {g_Grammar_init : Addr} {god_Grammar_init gan_Grammar_init : Option Addr} {gsl_Grammar_init : Array (Option Value)} {goc_Grammar_init gkV_Grammar_init gdc_Grammar_init gpm_Grammar_init gcd_Grammar_init gct_Grammar_init : Value}
    (ma_Grammar_init : PySem.W.findIn K (.ref O_Grammar) "__init__" = some (some (.ref g_Grammar_init)))
    (ml_Grammar_init : K.lookup g_Grammar_init = some ⟨goc_Grammar_init, god_Grammar_init, .func (PySem.W.fnOf "__init__" "Grammar.__init__" (defArgs s_Grammar_init) (defBody s_Grammar_init) (defScope s_Grammar_init) .none gkV_Grammar_init gdc_Grammar_init gpm_Grammar_init gan_Grammar_init gcd_Grammar_init gct_Grammar_init), gsl_Grammar_init⟩)
    (mc_Grammar_init : PySem.W.codeIn K gcd_Grammar_init "Grammar.__init__" = true)
    (mk_Grammar_init : PySem.W.keepIn K (.ref g_Grammar_init) = true)
    (mf_Grammar_init : PySem.W.isFn K (.ref g_Grammar_init) = true)
    {g_Grammar_rules : Addr} {god_Grammar_rules gan_Grammar_rules : Option Addr} {gsl_Grammar_rules : Array (Option Value)} {goc_Grammar_rules gkV_Grammar_rules gdc_Grammar_rules gpm_Grammar_rules gcd_Grammar_rules gct_Grammar_rules : Value}
    (ma_Grammar_rules : PySem.W.findIn K (.ref O_Grammar) "rules" = some (some (.ref g_Grammar_rules)))
    (ml_Grammar_rules : K.lookup g_Grammar_rules = some ⟨goc_Grammar_rules, god_Grammar_rules, .func (PySem.W.fnOf "rules" "Grammar.rules" (defArgs s_Grammar_rules) (defBody s_Grammar_rules) (defScope s_Grammar_rules) .none gkV_Grammar_rules gdc_Grammar_rules gpm_Grammar_rules gan_Grammar_rules gcd_Grammar_rules gct_Grammar_rules), gsl_Grammar_rules⟩)
    (mc_Grammar_rules : PySem.W.codeIn K gcd_Grammar_rules "Grammar.rules" = true)
    (mk_Grammar_rules : PySem.W.keepIn K (.ref g_Grammar_rules) = true)
    (mf_Grammar_rules : PySem.W.isFn K (.ref g_Grammar_rules) = true)
    {g_Grammar_numbers_of : Addr} {god_Grammar_numbers_of gan_Grammar_numbers_of : Option Addr} {gsl_Grammar_numbers_of : Array (Option Value)} {goc_Grammar_numbers_of gkV_Grammar_numbers_of gdc_Grammar_numbers_of gpm_Grammar_numbers_of gcd_Grammar_numbers_of gct_Grammar_numbers_of : Value}
    (ma_Grammar_numbers_of : PySem.W.findIn K (.ref O_Grammar) "numbers_of" = some (some (.ref g_Grammar_numbers_of)))
    (ml_Grammar_numbers_of : K.lookup g_Grammar_numbers_of = some ⟨goc_Grammar_numbers_of, god_Grammar_numbers_of, .func (PySem.W.fnOf "numbers_of" "Grammar.numbers_of" (defArgs s_Grammar_numbers_of) (defBody s_Grammar_numbers_of) (defScope s_Grammar_numbers_of) .none gkV_Grammar_numbers_of gdc_Grammar_numbers_of gpm_Grammar_numbers_of gan_Grammar_numbers_of gcd_Grammar_numbers_of gct_Grammar_numbers_of), gsl_Grammar_numbers_of⟩)
    (mc_Grammar_numbers_of : PySem.W.codeIn K gcd_Grammar_numbers_of "Grammar.numbers_of" = true)
    (mk_Grammar_numbers_of : PySem.W.keepIn K (.ref g_Grammar_numbers_of) = true)
    (mf_Grammar_numbers_of : PySem.W.isFn K (.ref g_Grammar_numbers_of) = true)
    {g_Grammar_told : Addr} {god_Grammar_told gan_Grammar_told : Option Addr} {gsl_Grammar_told : Array (Option Value)} {goc_Grammar_told gkV_Grammar_told gdc_Grammar_told gpm_Grammar_told gcd_Grammar_told gct_Grammar_told : Value}
    (ma_Grammar_told : PySem.W.findIn K (.ref O_Grammar) "told" = some (some (.ref g_Grammar_told)))
    (ml_Grammar_told : K.lookup g_Grammar_told = some ⟨goc_Grammar_told, god_Grammar_told, .func (PySem.W.fnOf "told" "Grammar.told" (defArgs s_Grammar_told) (defBody s_Grammar_told) (defScope s_Grammar_told) .none gkV_Grammar_told gdc_Grammar_told gpm_Grammar_told gan_Grammar_told gcd_Grammar_told gct_Grammar_told), gsl_Grammar_told⟩)
    (mc_Grammar_told : PySem.W.codeIn K gcd_Grammar_told "Grammar.told" = true)
    (mk_Grammar_told : PySem.W.keepIn K (.ref g_Grammar_told) = true)
    (mf_Grammar_told : PySem.W.isFn K (.ref g_Grammar_told) = true)
    (ia_Rule : PySem.W.specialIn K (.ref O_Rule) "__getattribute__" = some (some (.builtin "type.__getattribute__")))
    (ib_Rule : PySem.W.readsIn K O_Rule (.type "type") = true)
    (ic_Rule : PySem.W.findCls K (.ref O_Rule) (.type "type") "__init__" = some (.val (.ref g_Rule_init)))
    (ou_CellRule_BesideRule : PySem.W.subIn K (.ref O_CellRule) (.ref O_BesideRule) = some false)
    (ov_CellRule_BesideRule : ¬ O_CellRule = O_BesideRule)
    (ou_CellRule_AboveRule : PySem.W.subIn K (.ref O_CellRule) (.ref O_AboveRule) = some false)
    (ov_CellRule_AboveRule : ¬ O_CellRule = O_AboveRule)
    (ou_CellRule_CellRule : PySem.W.subIn K (.ref O_CellRule) (.ref O_CellRule) = some true)
    (ou_CellRule_TurnRule : PySem.W.subIn K (.ref O_CellRule) (.ref O_TurnRule) = some false)
    (ov_CellRule_TurnRule : ¬ O_CellRule = O_TurnRule)
    (ou_BesideRule_BesideRule : PySem.W.subIn K (.ref O_BesideRule) (.ref O_BesideRule) = some true)
    (ou_BesideRule_AboveRule : PySem.W.subIn K (.ref O_BesideRule) (.ref O_AboveRule) = some false)
    (ov_BesideRule_AboveRule : ¬ O_BesideRule = O_AboveRule)
    (ou_BesideRule_CellRule : PySem.W.subIn K (.ref O_BesideRule) (.ref O_CellRule) = some false)
    (ov_BesideRule_CellRule : ¬ O_BesideRule = O_CellRule)
    (ou_BesideRule_TurnRule : PySem.W.subIn K (.ref O_BesideRule) (.ref O_TurnRule) = some false)
    (ov_BesideRule_TurnRule : ¬ O_BesideRule = O_TurnRule)
    (ou_AboveRule_BesideRule : PySem.W.subIn K (.ref O_AboveRule) (.ref O_BesideRule) = some false)
    (ov_AboveRule_BesideRule : ¬ O_AboveRule = O_BesideRule)
    (ou_AboveRule_AboveRule : PySem.W.subIn K (.ref O_AboveRule) (.ref O_AboveRule) = some true)
    (ou_AboveRule_CellRule : PySem.W.subIn K (.ref O_AboveRule) (.ref O_CellRule) = some false)
    (ov_AboveRule_CellRule : ¬ O_AboveRule = O_CellRule)
    (ou_AboveRule_TurnRule : PySem.W.subIn K (.ref O_AboveRule) (.ref O_TurnRule) = some false)
    (ov_AboveRule_TurnRule : ¬ O_AboveRule = O_TurnRule)
    (ou_TurnRule_BesideRule : PySem.W.subIn K (.ref O_TurnRule) (.ref O_BesideRule) = some false)
    (ov_TurnRule_BesideRule : ¬ O_TurnRule = O_BesideRule)
    (ou_TurnRule_AboveRule : PySem.W.subIn K (.ref O_TurnRule) (.ref O_AboveRule) = some false)
    (ov_TurnRule_AboveRule : ¬ O_TurnRule = O_AboveRule)
    (ou_TurnRule_CellRule : PySem.W.subIn K (.ref O_TurnRule) (.ref O_CellRule) = some false)
    (ov_TurnRule_CellRule : ¬ O_TurnRule = O_CellRule)
    (ou_TurnRule_TurnRule : PySem.W.subIn K (.ref O_TurnRule) (.ref O_TurnRule) = some true)
    (ou_Sizes_BesideRule : PySem.W.subIn K (.ref O_Sizes) (.ref O_BesideRule) = some false)
    (ov_Sizes_BesideRule : ¬ O_Sizes = O_BesideRule)
    (ou_Sizes_AboveRule : PySem.W.subIn K (.ref O_Sizes) (.ref O_AboveRule) = some false)
    (ov_Sizes_AboveRule : ¬ O_Sizes = O_AboveRule)
    (ou_Sizes_CellRule : PySem.W.subIn K (.ref O_Sizes) (.ref O_CellRule) = some false)
    (ov_Sizes_CellRule : ¬ O_Sizes = O_CellRule)
    (ou_Sizes_TurnRule : PySem.W.subIn K (.ref O_Sizes) (.ref O_TurnRule) = some false)
    (ov_Sizes_TurnRule : ¬ O_Sizes = O_TurnRule)
    (ou_Grammar_BesideRule : PySem.W.subIn K (.ref O_Grammar) (.ref O_BesideRule) = some false)
    (ov_Grammar_BesideRule : ¬ O_Grammar = O_BesideRule)
    (ou_Grammar_AboveRule : PySem.W.subIn K (.ref O_Grammar) (.ref O_AboveRule) = some false)
    (ov_Grammar_AboveRule : ¬ O_Grammar = O_AboveRule)
    (ou_Grammar_CellRule : PySem.W.subIn K (.ref O_Grammar) (.ref O_CellRule) = some false)
    (ov_Grammar_CellRule : ¬ O_Grammar = O_CellRule)
    (ou_Grammar_TurnRule : PySem.W.subIn K (.ref O_Grammar) (.ref O_TurnRule) = some false)
    (ov_Grammar_TurnRule : ¬ O_Grammar = O_TurnRule)
    {f_size_of : Addr} {od_size_of an_size_of : Option Addr} {sl_size_of : Array (Option Value)} {oc_size_of kV_size_of dc_size_of pm_size_of cd_size_of ct_size_of : Value} (a_size_of : PySem.W.nsIn K mainGlobals "size_of" = some (some (.ref f_size_of))) (l_size_of : K.lookup f_size_of = some ⟨oc_size_of, od_size_of, .func (PySem.W.fnOf "size_of" "size_of" (defArgs s_size_of) (defBody s_size_of) (defScope s_size_of) .none kV_size_of dc_size_of pm_size_of an_size_of cd_size_of ct_size_of), sl_size_of⟩) (c_size_of : PySem.W.codeIn K cd_size_of "size_of" = true) (k_size_of : PySem.W.keepIn K (.ref f_size_of) = true)
    {f_shown : Addr} {od_shown an_shown : Option Addr} {sl_shown : Array (Option Value)} {oc_shown kV_shown dc_shown pm_shown cd_shown ct_shown : Value} (a_shown : PySem.W.nsIn K mainGlobals "shown" = some (some (.ref f_shown))) (l_shown : K.lookup f_shown = some ⟨oc_shown, od_shown, .func (PySem.W.fnOf "shown" "shown" (defArgs s_shown) (defBody s_shown) (defScope s_shown) .none kV_shown dc_shown pm_shown an_shown cd_shown ct_shown), sl_shown⟩) (c_shown : PySem.W.codeIn K cd_shown "shown" = true) (k_shown : PySem.W.keepIn K (.ref f_shown) = true)
    {f_beside : Addr} {od_beside an_beside : Option Addr} {sl_beside : Array (Option Value)} {oc_beside kV_beside dc_beside pm_beside cd_beside ct_beside : Value} (a_beside : PySem.W.nsIn K mainGlobals "beside" = some (some (.ref f_beside))) (l_beside : K.lookup f_beside = some ⟨oc_beside, od_beside, .func (PySem.W.fnOf "beside" "beside" (defArgs s_beside) (defBody s_beside) (defScope s_beside) .none kV_beside dc_beside pm_beside an_beside cd_beside ct_beside), sl_beside⟩) (c_beside : PySem.W.codeIn K cd_beside "beside" = true) (k_beside : PySem.W.keepIn K (.ref f_beside) = true)
    {f_above : Addr} {od_above an_above : Option Addr} {sl_above : Array (Option Value)} {oc_above kV_above dc_above pm_above cd_above ct_above : Value} (a_above : PySem.W.nsIn K mainGlobals "above" = some (some (.ref f_above))) (l_above : K.lookup f_above = some ⟨oc_above, od_above, .func (PySem.W.fnOf "above" "above" (defArgs s_above) (defBody s_above) (defScope s_above) .none kV_above dc_above pm_above an_above cd_above ct_above), sl_above⟩) (c_above : PySem.W.codeIn K cd_above "above" = true) (k_above : PySem.W.keepIn K (.ref f_above) = true)
    {f_quarter : Addr} {od_quarter an_quarter : Option Addr} {sl_quarter : Array (Option Value)} {oc_quarter kV_quarter dc_quarter pm_quarter cd_quarter ct_quarter : Value} (a_quarter : PySem.W.nsIn K mainGlobals "quarter" = some (some (.ref f_quarter))) (l_quarter : K.lookup f_quarter = some ⟨oc_quarter, od_quarter, .func (PySem.W.fnOf "quarter" "quarter" (defArgs s_quarter) (defBody s_quarter) (defScope s_quarter) .none kV_quarter dc_quarter pm_quarter an_quarter cd_quarter ct_quarter), sl_quarter⟩) (c_quarter : PySem.W.codeIn K cd_quarter "quarter" = true) (k_quarter : PySem.W.keepIn K (.ref f_quarter) = true)
    {f_mirrored : Addr} {od_mirrored an_mirrored : Option Addr} {sl_mirrored : Array (Option Value)} {oc_mirrored kV_mirrored dc_mirrored pm_mirrored cd_mirrored ct_mirrored : Value} (a_mirrored : PySem.W.nsIn K mainGlobals "mirrored" = some (some (.ref f_mirrored))) (l_mirrored : K.lookup f_mirrored = some ⟨oc_mirrored, od_mirrored, .func (PySem.W.fnOf "mirrored" "mirrored" (defArgs s_mirrored) (defBody s_mirrored) (defScope s_mirrored) .none kV_mirrored dc_mirrored pm_mirrored an_mirrored cd_mirrored ct_mirrored), sl_mirrored⟩) (c_mirrored : PySem.W.codeIn K cd_mirrored "mirrored" = true) (k_mirrored : PySem.W.keepIn K (.ref f_mirrored) = true)
    {f_turned : Addr} {od_turned an_turned : Option Addr} {sl_turned : Array (Option Value)} {oc_turned kV_turned dc_turned pm_turned cd_turned ct_turned : Value} (a_turned : PySem.W.nsIn K mainGlobals "turned" = some (some (.ref f_turned))) (l_turned : K.lookup f_turned = some ⟨oc_turned, od_turned, .func (PySem.W.fnOf "turned" "turned" (defArgs s_turned) (defBody s_turned) (defScope s_turned) .none kV_turned dc_turned pm_turned an_turned cd_turned ct_turned), sl_turned⟩) (c_turned : PySem.W.codeIn K cd_turned "turned" = true) (k_turned : PySem.W.keepIn K (.ref f_turned) = true)
    {f_after : Addr} {od_after an_after : Option Addr} {sl_after : Array (Option Value)} {oc_after kV_after dc_after pm_after cd_after ct_after : Value} (a_after : PySem.W.nsIn K mainGlobals "after" = some (some (.ref f_after))) (l_after : K.lookup f_after = some ⟨oc_after, od_after, .func (PySem.W.fnOf "after" "after" (defArgs s_after) (defBody s_after) (defScope s_after) .none kV_after dc_after pm_after an_after cd_after ct_after), sl_after⟩) (c_after : PySem.W.codeIn K cd_after "after" = true) (k_after : PySem.W.keepIn K (.ref f_after) = true)
    {f_back : Addr} {od_back an_back : Option Addr} {sl_back : Array (Option Value)} {oc_back kV_back dc_back pm_back cd_back ct_back : Value} (a_back : PySem.W.nsIn K mainGlobals "back" = some (some (.ref f_back))) (l_back : K.lookup f_back = some ⟨oc_back, od_back, .func (PySem.W.fnOf "back" "back" (defArgs s_back) (defBody s_back) (defScope s_back) .none kV_back dc_back pm_back an_back cd_back ct_back), sl_back⟩) (c_back : PySem.W.codeIn K cd_back "back" = true) (k_back : PySem.W.keepIn K (.ref f_back) = true)
    {f_is_name : Addr} {od_is_name an_is_name : Option Addr} {sl_is_name : Array (Option Value)} {oc_is_name kV_is_name dc_is_name pm_is_name cd_is_name ct_is_name : Value} (a_is_name : PySem.W.nsIn K mainGlobals "is_name" = some (some (.ref f_is_name))) (l_is_name : K.lookup f_is_name = some ⟨oc_is_name, od_is_name, .func (PySem.W.fnOf "is_name" "is_name" (defArgs s_is_name) (defBody s_is_name) (defScope s_is_name) .none kV_is_name dc_is_name pm_is_name an_is_name cd_is_name ct_is_name), sl_is_name⟩) (c_is_name : PySem.W.codeIn K cd_is_name "is_name" = true) (k_is_name : PySem.W.keepIn K (.ref f_is_name) = true)
    {f_asked_name : Addr} {od_asked_name an_asked_name : Option Addr} {sl_asked_name : Array (Option Value)} {oc_asked_name kV_asked_name dc_asked_name pm_asked_name cd_asked_name ct_asked_name : Value} (a_asked_name : PySem.W.nsIn K mainGlobals "asked_name" = some (some (.ref f_asked_name))) (l_asked_name : K.lookup f_asked_name = some ⟨oc_asked_name, od_asked_name, .func (PySem.W.fnOf "asked_name" "asked_name" (defArgs s_asked_name) (defBody s_asked_name) (defScope s_asked_name) .none kV_asked_name dc_asked_name pm_asked_name an_asked_name cd_asked_name ct_asked_name), sl_asked_name⟩) (c_asked_name : PySem.W.codeIn K cd_asked_name "asked_name" = true) (k_asked_name : PySem.W.keepIn K (.ref f_asked_name) = true)
    {f_turned_pair : Addr} {od_turned_pair an_turned_pair : Option Addr} {sl_turned_pair : Array (Option Value)} {oc_turned_pair kV_turned_pair dc_turned_pair pm_turned_pair cd_turned_pair ct_turned_pair : Value} (a_turned_pair : PySem.W.nsIn K mainGlobals "turned_pair" = some (some (.ref f_turned_pair))) (l_turned_pair : K.lookup f_turned_pair = some ⟨oc_turned_pair, od_turned_pair, .func (PySem.W.fnOf "turned_pair" "turned_pair" (defArgs s_turned_pair) (defBody s_turned_pair) (defScope s_turned_pair) .none kV_turned_pair dc_turned_pair pm_turned_pair an_turned_pair cd_turned_pair ct_turned_pair), sl_turned_pair⟩) (c_turned_pair : PySem.W.codeIn K cd_turned_pair "turned_pair" = true) (k_turned_pair : PySem.W.keepIn K (.ref f_turned_pair) = true)
    {f_note : Addr} {od_note an_note : Option Addr} {sl_note : Array (Option Value)} {oc_note kV_note dc_note pm_note cd_note ct_note : Value} (a_note : PySem.W.nsIn K mainGlobals "note" = some (some (.ref f_note))) (l_note : K.lookup f_note = some ⟨oc_note, od_note, .func (PySem.W.fnOf "note" "note" (defArgs s_note) (defBody s_note) (defScope s_note) .none kV_note dc_note pm_note an_note cd_note ct_note), sl_note⟩) (c_note : PySem.W.codeIn K cd_note "note" = true) (k_note : PySem.W.keepIn K (.ref f_note) = true)
    {f_made_of : Addr} {od_made_of an_made_of : Option Addr} {sl_made_of : Array (Option Value)} {oc_made_of kV_made_of dc_made_of pm_made_of cd_made_of ct_made_of : Value} (a_made_of : PySem.W.nsIn K mainGlobals "made_of" = some (some (.ref f_made_of))) (l_made_of : K.lookup f_made_of = some ⟨oc_made_of, od_made_of, .func (PySem.W.fnOf "made_of" "made_of" (defArgs s_made_of) (defBody s_made_of) (defScope s_made_of) .none kV_made_of dc_made_of pm_made_of an_made_of cd_made_of ct_made_of), sl_made_of⟩) (c_made_of : PySem.W.codeIn K cd_made_of "made_of" = true) (k_made_of : PySem.W.keepIn K (.ref f_made_of) = true)
    {f_cells_of : Addr} {od_cells_of an_cells_of : Option Addr} {sl_cells_of : Array (Option Value)} {oc_cells_of kV_cells_of dc_cells_of pm_cells_of cd_cells_of ct_cells_of : Value} (a_cells_of : PySem.W.nsIn K mainGlobals "cells_of" = some (some (.ref f_cells_of))) (l_cells_of : K.lookup f_cells_of = some ⟨oc_cells_of, od_cells_of, .func (PySem.W.fnOf "cells_of" "cells_of" (defArgs s_cells_of) (defBody s_cells_of) (defScope s_cells_of) .none kV_cells_of dc_cells_of pm_cells_of an_cells_of cd_cells_of ct_cells_of), sl_cells_of⟩) (c_cells_of : PySem.W.codeIn K cd_cells_of "cells_of" = true) (k_cells_of : PySem.W.keepIn K (.ref f_cells_of) = true)
    {f_sizes_within : Addr} {od_sizes_within an_sizes_within : Option Addr} {sl_sizes_within : Array (Option Value)} {oc_sizes_within kV_sizes_within dc_sizes_within pm_sizes_within cd_sizes_within ct_sizes_within : Value} (a_sizes_within : PySem.W.nsIn K mainGlobals "sizes_within" = some (some (.ref f_sizes_within))) (l_sizes_within : K.lookup f_sizes_within = some ⟨oc_sizes_within, od_sizes_within, .func (PySem.W.fnOf "sizes_within" "sizes_within" (defArgs s_sizes_within) (defBody s_sizes_within) (defScope s_sizes_within) .none kV_sizes_within dc_sizes_within pm_sizes_within an_sizes_within cd_sizes_within ct_sizes_within), sl_sizes_within⟩) (c_sizes_within : PySem.W.codeIn K cd_sizes_within "sizes_within" = true) (k_sizes_within : PySem.W.keepIn K (.ref f_sizes_within) = true)
    {f_picture_of : Addr} {od_picture_of an_picture_of : Option Addr} {sl_picture_of : Array (Option Value)} {oc_picture_of kV_picture_of dc_picture_of pm_picture_of cd_picture_of ct_picture_of : Value} (a_picture_of : PySem.W.nsIn K mainGlobals "picture_of" = some (some (.ref f_picture_of))) (l_picture_of : K.lookup f_picture_of = some ⟨oc_picture_of, od_picture_of, .func (PySem.W.fnOf "picture_of" "picture_of" (defArgs s_picture_of) (defBody s_picture_of) (defScope s_picture_of) .none kV_picture_of dc_picture_of pm_picture_of an_picture_of cd_picture_of ct_picture_of), sl_picture_of⟩) (c_picture_of : PySem.W.codeIn K cd_picture_of "picture_of" = true) (k_picture_of : PySem.W.keepIn K (.ref f_picture_of) = true)
    {f_pictures_of : Addr} {od_pictures_of an_pictures_of : Option Addr} {sl_pictures_of : Array (Option Value)} {oc_pictures_of kV_pictures_of dc_pictures_of pm_pictures_of cd_pictures_of ct_pictures_of : Value} (a_pictures_of : PySem.W.nsIn K mainGlobals "pictures_of" = some (some (.ref f_pictures_of))) (l_pictures_of : K.lookup f_pictures_of = some ⟨oc_pictures_of, od_pictures_of, .func (PySem.W.fnOf "pictures_of" "pictures_of" (defArgs s_pictures_of) (defBody s_pictures_of) (defScope s_pictures_of) .none kV_pictures_of dc_pictures_of pm_pictures_of an_pictures_of cd_pictures_of ct_pictures_of), sl_pictures_of⟩) (c_pictures_of : PySem.W.codeIn K cd_pictures_of "pictures_of" = true) (k_pictures_of : PySem.W.keepIn K (.ref f_pictures_of) = true)
    {f_are_signs : Addr} {od_are_signs an_are_signs : Option Addr} {sl_are_signs : Array (Option Value)} {oc_are_signs kV_are_signs dc_are_signs pm_are_signs cd_are_signs ct_are_signs : Value} (a_are_signs : PySem.W.nsIn K mainGlobals "are_signs" = some (some (.ref f_are_signs))) (l_are_signs : K.lookup f_are_signs = some ⟨oc_are_signs, od_are_signs, .func (PySem.W.fnOf "are_signs" "are_signs" (defArgs s_are_signs) (defBody s_are_signs) (defScope s_are_signs) .none kV_are_signs dc_are_signs pm_are_signs an_are_signs cd_are_signs ct_are_signs), sl_are_signs⟩) (c_are_signs : PySem.W.codeIn K cd_are_signs "are_signs" = true) (k_are_signs : PySem.W.keepIn K (.ref f_are_signs) = true)
    {f_names_met : Addr} {od_names_met an_names_met : Option Addr} {sl_names_met : Array (Option Value)} {oc_names_met kV_names_met dc_names_met pm_names_met cd_names_met ct_names_met : Value} (a_names_met : PySem.W.nsIn K mainGlobals "names_met" = some (some (.ref f_names_met))) (l_names_met : K.lookup f_names_met = some ⟨oc_names_met, od_names_met, .func (PySem.W.fnOf "names_met" "names_met" (defArgs s_names_met) (defBody s_names_met) (defScope s_names_met) .none kV_names_met dc_names_met pm_names_met an_names_met cd_names_met ct_names_met), sl_names_met⟩) (c_names_met : PySem.W.codeIn K cd_names_met "names_met" = true) (k_names_met : PySem.W.keepIn K (.ref f_names_met) = true)
    {f_asked_rules : Addr} {od_asked_rules an_asked_rules : Option Addr} {sl_asked_rules : Array (Option Value)} {oc_asked_rules kV_asked_rules dc_asked_rules pm_asked_rules cd_asked_rules ct_asked_rules : Value} (a_asked_rules : PySem.W.nsIn K mainGlobals "asked_rules" = some (some (.ref f_asked_rules))) (l_asked_rules : K.lookup f_asked_rules = some ⟨oc_asked_rules, od_asked_rules, .func (PySem.W.fnOf "asked_rules" "asked_rules" (defArgs s_asked_rules) (defBody s_asked_rules) (defScope s_asked_rules) .none kV_asked_rules dc_asked_rules pm_asked_rules an_asked_rules cd_asked_rules ct_asked_rules), sl_asked_rules⟩) (c_asked_rules : PySem.W.codeIn K cd_asked_rules "asked_rules" = true) (k_asked_rules : PySem.W.keepIn K (.ref f_asked_rules) = true)
    {f_law_cell : Addr} {od_law_cell an_law_cell : Option Addr} {sl_law_cell : Array (Option Value)} {oc_law_cell kV_law_cell dc_law_cell pm_law_cell cd_law_cell ct_law_cell : Value} (a_law_cell : PySem.W.nsIn K mainGlobals "_law_cell" = some (some (.ref f_law_cell))) (l_law_cell : K.lookup f_law_cell = some ⟨oc_law_cell, od_law_cell, .func (PySem.W.fnOf "_law_cell" "_law_cell" (defArgs s_law_cell) (defBody s_law_cell) (defScope s_law_cell) .none kV_law_cell dc_law_cell pm_law_cell an_law_cell cd_law_cell ct_law_cell), sl_law_cell⟩) (c_law_cell : PySem.W.codeIn K cd_law_cell "_law_cell" = true) (k_law_cell : PySem.W.keepIn K (.ref f_law_cell) = true)
    {f_law_cells : Addr} {od_law_cells an_law_cells : Option Addr} {sl_law_cells : Array (Option Value)} {oc_law_cells kV_law_cells dc_law_cells pm_law_cells cd_law_cells ct_law_cells : Value} (a_law_cells : PySem.W.nsIn K mainGlobals "_law_cells" = some (some (.ref f_law_cells))) (l_law_cells : K.lookup f_law_cells = some ⟨oc_law_cells, od_law_cells, .func (PySem.W.fnOf "_law_cells" "_law_cells" (defArgs s_law_cells) (defBody s_law_cells) (defScope s_law_cells) .none kV_law_cells dc_law_cells pm_law_cells an_law_cells cd_law_cells ct_law_cells), sl_law_cells⟩) (c_law_cells : PySem.W.codeIn K cd_law_cells "_law_cells" = true) (k_law_cells : PySem.W.keepIn K (.ref f_law_cells) = true)
    {f_law_signs : Addr} {od_law_signs an_law_signs : Option Addr} {sl_law_signs : Array (Option Value)} {oc_law_signs kV_law_signs dc_law_signs pm_law_signs cd_law_signs ct_law_signs : Value} (a_law_signs : PySem.W.nsIn K mainGlobals "_law_signs" = some (some (.ref f_law_signs))) (l_law_signs : K.lookup f_law_signs = some ⟨oc_law_signs, od_law_signs, .func (PySem.W.fnOf "_law_signs" "_law_signs" (defArgs s_law_signs) (defBody s_law_signs) (defScope s_law_signs) .none kV_law_signs dc_law_signs pm_law_signs an_law_signs cd_law_signs ct_law_signs), sl_law_signs⟩) (c_law_signs : PySem.W.codeIn K cd_law_signs "_law_signs" = true) (k_law_signs : PySem.W.keepIn K (.ref f_law_signs) = true)
    {f_law_names : Addr} {od_law_names an_law_names : Option Addr} {sl_law_names : Array (Option Value)} {oc_law_names kV_law_names dc_law_names pm_law_names cd_law_names ct_law_names : Value} (a_law_names : PySem.W.nsIn K mainGlobals "_law_names" = some (some (.ref f_law_names))) (l_law_names : K.lookup f_law_names = some ⟨oc_law_names, od_law_names, .func (PySem.W.fnOf "_law_names" "_law_names" (defArgs s_law_names) (defBody s_law_names) (defScope s_law_names) .none kV_law_names dc_law_names pm_law_names an_law_names cd_law_names ct_law_names), sl_law_names⟩) (c_law_names : PySem.W.codeIn K cd_law_names "_law_names" = true) (k_law_names : PySem.W.keepIn K (.ref f_law_names) = true)
    {f_law_rule : Addr} {od_law_rule an_law_rule : Option Addr} {sl_law_rule : Array (Option Value)} {oc_law_rule kV_law_rule dc_law_rule pm_law_rule cd_law_rule ct_law_rule : Value} (a_law_rule : PySem.W.nsIn K mainGlobals "_law_rule" = some (some (.ref f_law_rule))) (l_law_rule : K.lookup f_law_rule = some ⟨oc_law_rule, od_law_rule, .func (PySem.W.fnOf "_law_rule" "_law_rule" (defArgs s_law_rule) (defBody s_law_rule) (defScope s_law_rule) .none kV_law_rule dc_law_rule pm_law_rule an_law_rule cd_law_rule ct_law_rule), sl_law_rule⟩) (c_law_rule : PySem.W.codeIn K cd_law_rule "_law_rule" = true) (k_law_rule : PySem.W.keepIn K (.ref f_law_rule) = true)
    {f_law_grammar : Addr} {od_law_grammar an_law_grammar : Option Addr} {sl_law_grammar : Array (Option Value)} {oc_law_grammar kV_law_grammar dc_law_grammar pm_law_grammar cd_law_grammar ct_law_grammar : Value} (a_law_grammar : PySem.W.nsIn K mainGlobals "_law_grammar" = some (some (.ref f_law_grammar))) (l_law_grammar : K.lookup f_law_grammar = some ⟨oc_law_grammar, od_law_grammar, .func (PySem.W.fnOf "_law_grammar" "_law_grammar" (defArgs s_law_grammar) (defBody s_law_grammar) (defScope s_law_grammar) .none kV_law_grammar dc_law_grammar pm_law_grammar an_law_grammar cd_law_grammar ct_law_grammar), sl_law_grammar⟩) (c_law_grammar : PySem.W.codeIn K cd_law_grammar "_law_grammar" = true) (k_law_grammar : PySem.W.keepIn K (.ref f_law_grammar) = true)
    {f_law_turned : Addr} {od_law_turned an_law_turned : Option Addr} {sl_law_turned : Array (Option Value)} {oc_law_turned kV_law_turned dc_law_turned pm_law_turned cd_law_turned ct_law_turned : Value} (a_law_turned : PySem.W.nsIn K mainGlobals "_law_turned" = some (some (.ref f_law_turned))) (l_law_turned : K.lookup f_law_turned = some ⟨oc_law_turned, od_law_turned, .func (PySem.W.fnOf "_law_turned" "_law_turned" (defArgs s_law_turned) (defBody s_law_turned) (defScope s_law_turned) .none kV_law_turned dc_law_turned pm_law_turned an_law_turned cd_law_turned ct_law_turned), sl_law_turned⟩) (c_law_turned : PySem.W.codeIn K cd_law_turned "_law_turned" = true) (k_law_turned : PySem.W.keepIn K (.ref f_law_turned) = true)
    {f_law_drawn : Addr} {od_law_drawn an_law_drawn : Option Addr} {sl_law_drawn : Array (Option Value)} {oc_law_drawn kV_law_drawn dc_law_drawn pm_law_drawn cd_law_drawn ct_law_drawn : Value} (a_law_drawn : PySem.W.nsIn K mainGlobals "_law_drawn" = some (some (.ref f_law_drawn))) (l_law_drawn : K.lookup f_law_drawn = some ⟨oc_law_drawn, od_law_drawn, .func (PySem.W.fnOf "_law_drawn" "_law_drawn" (defArgs s_law_drawn) (defBody s_law_drawn) (defScope s_law_drawn) .none kV_law_drawn dc_law_drawn pm_law_drawn an_law_drawn cd_law_drawn ct_law_drawn), sl_law_drawn⟩) (c_law_drawn : PySem.W.codeIn K cd_law_drawn "_law_drawn" = true) (k_law_drawn : PySem.W.keepIn K (.ref f_law_drawn) = true)
    {f_law_all : Addr} {od_law_all an_law_all : Option Addr} {sl_law_all : Array (Option Value)} {oc_law_all kV_law_all dc_law_all pm_law_all cd_law_all ct_law_all : Value} (a_law_all : PySem.W.nsIn K mainGlobals "_law_all" = some (some (.ref f_law_all))) (l_law_all : K.lookup f_law_all = some ⟨oc_law_all, od_law_all, .func (PySem.W.fnOf "_law_all" "_law_all" (defArgs s_law_all) (defBody s_law_all) (defScope s_law_all) .none kV_law_all dc_law_all pm_law_all an_law_all cd_law_all ct_law_all), sl_law_all⟩) (c_law_all : PySem.W.codeIn K cd_law_all "_law_all" = true) (k_law_all : PySem.W.keepIn K (.ref f_law_all) = true)
    {f_law_pair : Addr} {od_law_pair an_law_pair : Option Addr} {sl_law_pair : Array (Option Value)} {oc_law_pair kV_law_pair dc_law_pair pm_law_pair cd_law_pair ct_law_pair : Value} (a_law_pair : PySem.W.nsIn K mainGlobals "_law_pair" = some (some (.ref f_law_pair))) (l_law_pair : K.lookup f_law_pair = some ⟨oc_law_pair, od_law_pair, .func (PySem.W.fnOf "_law_pair" "_law_pair" (defArgs s_law_pair) (defBody s_law_pair) (defScope s_law_pair) .none kV_law_pair dc_law_pair pm_law_pair an_law_pair cd_law_pair ct_law_pair), sl_law_pair⟩) (c_law_pair : PySem.W.codeIn K cd_law_pair "_law_pair" = true) (k_law_pair : PySem.W.keepIn K (.ref f_law_pair) = true)
    {f_law_comes : Addr} {od_law_comes an_law_comes : Option Addr} {sl_law_comes : Array (Option Value)} {oc_law_comes kV_law_comes dc_law_comes pm_law_comes cd_law_comes ct_law_comes : Value} (a_law_comes : PySem.W.nsIn K mainGlobals "_law_comes" = some (some (.ref f_law_comes))) (l_law_comes : K.lookup f_law_comes = some ⟨oc_law_comes, od_law_comes, .func (PySem.W.fnOf "_law_comes" "_law_comes" (defArgs s_law_comes) (defBody s_law_comes) (defScope s_law_comes) .none kV_law_comes dc_law_comes pm_law_comes an_law_comes cd_law_comes ct_law_comes), sl_law_comes⟩) (c_law_comes : PySem.W.codeIn K cd_law_comes "_law_comes" = true) (k_law_comes : PySem.W.keepIn K (.ref f_law_comes) = true)
    {f_law_costs : Addr} {od_law_costs an_law_costs : Option Addr} {sl_law_costs : Array (Option Value)} {oc_law_costs kV_law_costs dc_law_costs pm_law_costs cd_law_costs ct_law_costs : Value} (a_law_costs : PySem.W.nsIn K mainGlobals "_law_costs" = some (some (.ref f_law_costs))) (l_law_costs : K.lookup f_law_costs = some ⟨oc_law_costs, od_law_costs, .func (PySem.W.fnOf "_law_costs" "_law_costs" (defArgs s_law_costs) (defBody s_law_costs) (defScope s_law_costs) .none kV_law_costs dc_law_costs pm_law_costs an_law_costs cd_law_costs ct_law_costs), sl_law_costs⟩) (c_law_costs : PySem.W.codeIn K cd_law_costs "_law_costs" = true) (k_law_costs : PySem.W.keepIn K (.ref f_law_costs) = true)
    : Txt K mg := ⟨PySem.W.mg_none_of X G zb_ValueError,
    PySem.W.mg_none_of X G zb_all,
    PySem.W.mg_none_of X G zb_bool,
    PySem.W.mg_none_of X G zb_enumerate,
    PySem.W.mg_none_of X G zb_int,
    PySem.W.mg_none_of X G zb_isinstance,
    PySem.W.mg_none_of X G zb_len,
    PySem.W.mg_none_of X G zb_list,
    PySem.W.mg_none_of X G zb_max,
    PySem.W.mg_none_of X G zb_min,
    PySem.W.mg_none_of X G zb_range,
    PySem.W.mg_none_of X G zb_reversed,
    PySem.W.mg_none_of X G zb_set,
    PySem.W.mg_none_of X G zb_sorted,
    PySem.W.mg_none_of X G zb_str,
    PySem.W.mg_none_of X G zb_tuple,
    PySem.W.mg_none_of X G zb_zip,
    ⟨_, PySem.W.mg_of X G zc_MOST⟩,
    ⟨_, PySem.W.mg_of X G zc_MIRROR⟩,
    ⟨_, PySem.W.mg_of X G zc_CAPITALS⟩,
    ⟨_, PySem.W.mg_of X G zc_SMALL⟩,
    ⟨_, PySem.W.mg_of X G zc_MOST_LETTERS⟩,
    ⟨_, PySem.W.mg_of X G zc_MOST_COST⟩,
    ⟨_, PySem.W.mg_of X G zc_MOST_PICTURES⟩,
    ⟨_, PySem.W.mg_of X G zc_MOST_SIGNS⟩,
    ⟨_, PySem.W.mg_of X G zc_MOST_RULES⟩,
    ⟨_, PySem.W.mg_of X G zc_MOST_NAMES⟩,
    ⟨C_NoFit, ⟨xa_NoFit, xk_NoFit, xt_NoFit, xg_NoFit, xh_NoFit, xs_NoFit, xd_NoFit, xc_NoFit, xn, xq, xm_NoFit⟩, PySem.W.mg_of X G xa_NoFit⟩,
    ⟨C_NoRule, ⟨xa_NoRule, xk_NoRule, xt_NoRule, xg_NoRule, xh_NoRule, xs_NoRule, xd_NoRule, xc_NoRule, xn, xq, xm_NoRule⟩, PySem.W.mg_of X G xa_NoRule⟩,
    ⟨C_NoGrammar, ⟨xa_NoGrammar, xk_NoGrammar, xt_NoGrammar, xg_NoGrammar, xh_NoGrammar, xs_NoGrammar, xd_NoGrammar, xc_NoGrammar, xn, xq, xm_NoGrammar⟩, PySem.W.mg_of X G xa_NoGrammar⟩,
    ⟨C_NoName, ⟨xa_NoName, xk_NoName, xt_NoName, xg_NoName, xh_NoName, xs_NoName, xd_NoName, xc_NoName, xn, xq, xm_NoName⟩, PySem.W.mg_of X G xa_NoName⟩,
    ⟨C_TooMany, ⟨xa_TooMany, xk_TooMany, xt_TooMany, xg_TooMany, xh_TooMany, xs_TooMany, xd_TooMany, xc_TooMany, xn, xq, xm_TooMany⟩, PySem.W.mg_of X G xa_TooMany⟩,
    ⟨C_QuiltError, ⟨xa_QuiltError, xk_QuiltError, xt_QuiltError, xg_QuiltError, xh_QuiltError, xs_QuiltError, xd_QuiltError, xc_QuiltError, xn, xq, xm_QuiltError⟩, PySem.W.mg_of X G xa_QuiltError⟩,
    XPlain.mk xa_NoFit xp_NoFit,
    XPlain.mk xa_NoRule xp_NoRule,
    ⟨C_NoGrammar, fI_NoGrammar, _, xa_NoGrammar, ⟨⟨_, _, _, _, _, _, _, _, _, _, _, _, _, _, _, xl_NoGrammar, xv_NoGrammar⟩, xw_NoGrammar, xs_NoGrammar, xt_NoGrammar, xk_NoGrammar⟩, xf_NoGrammar, xi_NoGrammar, xj_NoGrammar, fun_mk xo_NoGrammar xu_NoGrammar xz_NoGrammar, (fun_mk (st := s_NoGrammar_init) xo_NoGrammar xu_NoGrammar xz_NoGrammar).binds fun _ _ _ _ _ _ => ar2 fun _ _ => rfl⟩,
    XPlain.mk xa_TooMany xp_TooMany,
    XPlain.mk xa_NoName xp_NoName,
    ⟨C_QuiltError, PySem.W.mg_of X G xa_QuiltError, qs_QuiltError, qr_QuiltError, qf_QuiltError⟩,
    ⟨O_Rule, ⟨oa_Rule, ⟨ob_Rule, oc_Rule, od_Rule, oe_Rule⟩, of_Rule, og_Rule, oh_Rule, oi_Rule, xn, xq, oj_Rule⟩, PySem.W.mg_of X G oa_Rule⟩,
    ⟨O_CellRule, ⟨oa_CellRule, ⟨ob_CellRule, oc_CellRule, od_CellRule, oe_CellRule⟩, of_CellRule, og_CellRule, oh_CellRule, oi_CellRule, xn, xq, oj_CellRule⟩, PySem.W.mg_of X G oa_CellRule⟩,
    ⟨O_BesideRule, ⟨oa_BesideRule, ⟨ob_BesideRule, oc_BesideRule, od_BesideRule, oe_BesideRule⟩, of_BesideRule, og_BesideRule, oh_BesideRule, oi_BesideRule, xn, xq, oj_BesideRule⟩, PySem.W.mg_of X G oa_BesideRule⟩,
    ⟨O_AboveRule, ⟨oa_AboveRule, ⟨ob_AboveRule, oc_AboveRule, od_AboveRule, oe_AboveRule⟩, of_AboveRule, og_AboveRule, oh_AboveRule, oi_AboveRule, xn, xq, oj_AboveRule⟩, PySem.W.mg_of X G oa_AboveRule⟩,
    ⟨O_TurnRule, ⟨oa_TurnRule, ⟨ob_TurnRule, oc_TurnRule, od_TurnRule, oe_TurnRule⟩, of_TurnRule, og_TurnRule, oh_TurnRule, oi_TurnRule, xn, xq, oj_TurnRule⟩, PySem.W.mg_of X G oa_TurnRule⟩,
    ⟨O_Sizes, ⟨oa_Sizes, ⟨ob_Sizes, oc_Sizes, od_Sizes, oe_Sizes⟩, of_Sizes, og_Sizes, oh_Sizes, oi_Sizes, xn, xq, oj_Sizes⟩, PySem.W.mg_of X G oa_Sizes⟩,
    ⟨O_Grammar, ⟨oa_Grammar, ⟨ob_Grammar, oc_Grammar, od_Grammar, oe_Grammar⟩, of_Grammar, og_Grammar, oh_Grammar, oi_Grammar, xn, xq, oj_Grammar⟩, PySem.W.mg_of X G oa_Grammar⟩,
    fun D e => ns_one oa_Rule e ▸ na_Rule_name,
    fun D e => ns_one oa_Rule e ▸ na_Rule_cost,
    ⟨O_Rule, g_Rule_init, _, oa_Rule, ⟨ma_Rule_init, mf_Rule_init, mk_Rule_init⟩, fun_mk ml_Rule_init mc_Rule_init mk_Rule_init, (fun_mk (st := s_Rule_init) ml_Rule_init mc_Rule_init mk_Rule_init).binds fun _ _ _ _ _ _ => ar3 fun _ _ _ => rfl⟩,
    fun D e => ns_one oa_CellRule e ▸ na_CellRule_sign,
    fun D e => ns_one oa_CellRule e ▸ na_CellRule_name,
    fun D e => ns_one oa_CellRule e ▸ na_CellRule_cost,
    ⟨O_CellRule, g_CellRule_init, _, oa_CellRule, ⟨ma_CellRule_init, mf_CellRule_init, mk_CellRule_init⟩, fun_mk ml_CellRule_init mc_CellRule_init mk_CellRule_init, (fun_mk (st := s_CellRule_init) ml_CellRule_init mc_CellRule_init mk_CellRule_init).binds fun _ _ _ _ _ _ => ar4 fun _ _ _ _ => rfl⟩,
    ⟨O_CellRule, g_CellRule_made, _, oa_CellRule, ⟨ma_CellRule_made, mf_CellRule_made, mk_CellRule_made⟩, fun_mk ml_CellRule_made mc_CellRule_made mk_CellRule_made, (fun_mk (st := s_CellRule_made) ml_CellRule_made mc_CellRule_made mk_CellRule_made).binds fun _ _ _ _ _ _ => ar2 fun _ _ => rfl⟩,
    ⟨O_CellRule, g_CellRule_told, _, oa_CellRule, ⟨ma_CellRule_told, mf_CellRule_told, mk_CellRule_told⟩, fun_mk ml_CellRule_told mc_CellRule_told mk_CellRule_told, (fun_mk (st := s_CellRule_told) ml_CellRule_told mc_CellRule_told mk_CellRule_told).binds fun _ _ _ _ _ _ => ar1 fun _ => rfl⟩,
    ⟨O_CellRule, g_Rule_parts, _, oa_CellRule, ⟨ma_CellRule_parts, mf_Rule_parts, mk_Rule_parts⟩, fun_mk ml_Rule_parts mc_Rule_parts mk_Rule_parts, (fun_mk (st := s_Rule_parts) ml_Rule_parts mc_Rule_parts mk_Rule_parts).binds fun _ _ _ _ _ _ => ar1 fun _ => rfl⟩,
    ⟨O_CellRule, g_Rule_begun, _, oa_CellRule, ⟨ma_CellRule_begun, mf_Rule_begun, mk_Rule_begun⟩, fun_mk ml_Rule_begun mc_Rule_begun mk_Rule_begun, (fun_mk (st := s_Rule_begun) ml_Rule_begun mc_Rule_begun mk_Rule_begun).binds fun _ _ _ _ _ _ => ar1 fun _ => rfl⟩,
    fun D e => ns_one oa_BesideRule e ▸ na_BesideRule_one,
    fun D e => ns_one oa_BesideRule e ▸ na_BesideRule_other,
    fun D e => ns_one oa_BesideRule e ▸ na_BesideRule_name,
    fun D e => ns_one oa_BesideRule e ▸ na_BesideRule_cost,
    ⟨O_BesideRule, g_BesideRule_init, _, oa_BesideRule, ⟨ma_BesideRule_init, mf_BesideRule_init, mk_BesideRule_init⟩, fun_mk ml_BesideRule_init mc_BesideRule_init mk_BesideRule_init, (fun_mk (st := s_BesideRule_init) ml_BesideRule_init mc_BesideRule_init mk_BesideRule_init).binds fun _ _ _ _ _ _ => ar5 fun _ _ _ _ _ => rfl⟩,
    ⟨O_BesideRule, g_BesideRule_parts, _, oa_BesideRule, ⟨ma_BesideRule_parts, mf_BesideRule_parts, mk_BesideRule_parts⟩, fun_mk ml_BesideRule_parts mc_BesideRule_parts mk_BesideRule_parts, (fun_mk (st := s_BesideRule_parts) ml_BesideRule_parts mc_BesideRule_parts mk_BesideRule_parts).binds fun _ _ _ _ _ _ => ar1 fun _ => rfl⟩,
    ⟨O_BesideRule, g_BesideRule_made, _, oa_BesideRule, ⟨ma_BesideRule_made, mf_BesideRule_made, mk_BesideRule_made⟩, fun_mk ml_BesideRule_made mc_BesideRule_made mk_BesideRule_made, (fun_mk (st := s_BesideRule_made) ml_BesideRule_made mc_BesideRule_made mk_BesideRule_made).binds fun _ _ _ _ _ _ => ar2 fun _ _ => rfl⟩,
    ⟨O_BesideRule, g_BesideRule_told, _, oa_BesideRule, ⟨ma_BesideRule_told, mf_BesideRule_told, mk_BesideRule_told⟩, fun_mk ml_BesideRule_told mc_BesideRule_told mk_BesideRule_told, (fun_mk (st := s_BesideRule_told) ml_BesideRule_told mc_BesideRule_told mk_BesideRule_told).binds fun _ _ _ _ _ _ => ar1 fun _ => rfl⟩,
    ⟨O_BesideRule, g_Rule_begun, _, oa_BesideRule, ⟨ma_BesideRule_begun, mf_Rule_begun, mk_Rule_begun⟩, fun_mk ml_Rule_begun mc_Rule_begun mk_Rule_begun, (fun_mk (st := s_Rule_begun) ml_Rule_begun mc_Rule_begun mk_Rule_begun).binds fun _ _ _ _ _ _ => ar1 fun _ => rfl⟩,
    fun D e => ns_one oa_AboveRule e ▸ na_AboveRule_one,
    fun D e => ns_one oa_AboveRule e ▸ na_AboveRule_other,
    fun D e => ns_one oa_AboveRule e ▸ na_AboveRule_name,
    fun D e => ns_one oa_AboveRule e ▸ na_AboveRule_cost,
    ⟨O_AboveRule, g_AboveRule_init, _, oa_AboveRule, ⟨ma_AboveRule_init, mf_AboveRule_init, mk_AboveRule_init⟩, fun_mk ml_AboveRule_init mc_AboveRule_init mk_AboveRule_init, (fun_mk (st := s_AboveRule_init) ml_AboveRule_init mc_AboveRule_init mk_AboveRule_init).binds fun _ _ _ _ _ _ => ar5 fun _ _ _ _ _ => rfl⟩,
    ⟨O_AboveRule, g_AboveRule_parts, _, oa_AboveRule, ⟨ma_AboveRule_parts, mf_AboveRule_parts, mk_AboveRule_parts⟩, fun_mk ml_AboveRule_parts mc_AboveRule_parts mk_AboveRule_parts, (fun_mk (st := s_AboveRule_parts) ml_AboveRule_parts mc_AboveRule_parts mk_AboveRule_parts).binds fun _ _ _ _ _ _ => ar1 fun _ => rfl⟩,
    ⟨O_AboveRule, g_AboveRule_made, _, oa_AboveRule, ⟨ma_AboveRule_made, mf_AboveRule_made, mk_AboveRule_made⟩, fun_mk ml_AboveRule_made mc_AboveRule_made mk_AboveRule_made, (fun_mk (st := s_AboveRule_made) ml_AboveRule_made mc_AboveRule_made mk_AboveRule_made).binds fun _ _ _ _ _ _ => ar2 fun _ _ => rfl⟩,
    ⟨O_AboveRule, g_AboveRule_told, _, oa_AboveRule, ⟨ma_AboveRule_told, mf_AboveRule_told, mk_AboveRule_told⟩, fun_mk ml_AboveRule_told mc_AboveRule_told mk_AboveRule_told, (fun_mk (st := s_AboveRule_told) ml_AboveRule_told mc_AboveRule_told mk_AboveRule_told).binds fun _ _ _ _ _ _ => ar1 fun _ => rfl⟩,
    ⟨O_AboveRule, g_Rule_begun, _, oa_AboveRule, ⟨ma_AboveRule_begun, mf_Rule_begun, mk_Rule_begun⟩, fun_mk ml_Rule_begun mc_Rule_begun mk_Rule_begun, (fun_mk (st := s_Rule_begun) ml_Rule_begun mc_Rule_begun mk_Rule_begun).binds fun _ _ _ _ _ _ => ar1 fun _ => rfl⟩,
    fun D e => ns_one oa_TurnRule e ▸ na_TurnRule_part,
    fun D e => ns_one oa_TurnRule e ▸ na_TurnRule_turning,
    fun D e => ns_one oa_TurnRule e ▸ na_TurnRule_name,
    fun D e => ns_one oa_TurnRule e ▸ na_TurnRule_cost,
    ⟨O_TurnRule, g_TurnRule_init, _, oa_TurnRule, ⟨ma_TurnRule_init, mf_TurnRule_init, mk_TurnRule_init⟩, fun_mk ml_TurnRule_init mc_TurnRule_init mk_TurnRule_init, (fun_mk (st := s_TurnRule_init) ml_TurnRule_init mc_TurnRule_init mk_TurnRule_init).binds fun _ _ _ _ _ _ => ar5 fun _ _ _ _ _ => rfl⟩,
    ⟨O_TurnRule, g_TurnRule_parts, _, oa_TurnRule, ⟨ma_TurnRule_parts, mf_TurnRule_parts, mk_TurnRule_parts⟩, fun_mk ml_TurnRule_parts mc_TurnRule_parts mk_TurnRule_parts, (fun_mk (st := s_TurnRule_parts) ml_TurnRule_parts mc_TurnRule_parts mk_TurnRule_parts).binds fun _ _ _ _ _ _ => ar1 fun _ => rfl⟩,
    ⟨O_TurnRule, g_TurnRule_made, _, oa_TurnRule, ⟨ma_TurnRule_made, mf_TurnRule_made, mk_TurnRule_made⟩, fun_mk ml_TurnRule_made mc_TurnRule_made mk_TurnRule_made, (fun_mk (st := s_TurnRule_made) ml_TurnRule_made mc_TurnRule_made mk_TurnRule_made).binds fun _ _ _ _ _ _ => ar2 fun _ _ => rfl⟩,
    ⟨O_TurnRule, g_TurnRule_told, _, oa_TurnRule, ⟨ma_TurnRule_told, mf_TurnRule_told, mk_TurnRule_told⟩, fun_mk ml_TurnRule_told mc_TurnRule_told mk_TurnRule_told, (fun_mk (st := s_TurnRule_told) ml_TurnRule_told mc_TurnRule_told mk_TurnRule_told).binds fun _ _ _ _ _ _ => ar1 fun _ => rfl⟩,
    ⟨O_TurnRule, g_Rule_begun, _, oa_TurnRule, ⟨ma_TurnRule_begun, mf_Rule_begun, mk_Rule_begun⟩, fun_mk ml_Rule_begun mc_Rule_begun mk_Rule_begun, (fun_mk (st := s_Rule_begun) ml_Rule_begun mc_Rule_begun mk_Rule_begun).binds fun _ _ _ _ _ _ => ar1 fun _ => rfl⟩,
    fun D e => ns_one oa_Sizes e ▸ na_Sizes_grammar,
    fun D e => ns_one oa_Sizes e ▸ na_Sizes_kept,
    ⟨O_Sizes, g_Sizes_init, _, oa_Sizes, ⟨ma_Sizes_init, mf_Sizes_init, mk_Sizes_init⟩, fun_mk ml_Sizes_init mc_Sizes_init mk_Sizes_init, (fun_mk (st := s_Sizes_init) ml_Sizes_init mc_Sizes_init mk_Sizes_init).binds fun _ _ _ _ _ _ => ar2 fun _ _ => rfl⟩,
    ⟨O_Sizes, g_Sizes_put, _, oa_Sizes, ⟨ma_Sizes_put, mf_Sizes_put, mk_Sizes_put⟩, fun_mk ml_Sizes_put mc_Sizes_put mk_Sizes_put, (fun_mk (st := s_Sizes_put) ml_Sizes_put mc_Sizes_put mk_Sizes_put).binds fun _ _ _ _ _ _ => ar5 fun _ _ _ _ _ => rfl⟩,
    ⟨O_Sizes, g_Sizes_begun, _, oa_Sizes, ⟨ma_Sizes_begun, mf_Sizes_begun, mk_Sizes_begun⟩, fun_mk ml_Sizes_begun mc_Sizes_begun mk_Sizes_begun, (fun_mk (st := s_Sizes_begun) ml_Sizes_begun mc_Sizes_begun mk_Sizes_begun).binds fun _ _ _ _ _ _ => ar3 fun _ _ _ => rfl⟩,
    ⟨O_Sizes, g_Sizes_turned_on, _, oa_Sizes, ⟨ma_Sizes_turned_on, mf_Sizes_turned_on, mk_Sizes_turned_on⟩, fun_mk ml_Sizes_turned_on mc_Sizes_turned_on mk_Sizes_turned_on, (fun_mk (st := s_Sizes_turned_on) ml_Sizes_turned_on mc_Sizes_turned_on mk_Sizes_turned_on).binds fun _ _ _ _ _ _ => ar2 fun _ _ => rfl⟩,
    ⟨O_Sizes, g_Sizes_fill, _, oa_Sizes, ⟨ma_Sizes_fill, mf_Sizes_fill, mk_Sizes_fill⟩, fun_mk ml_Sizes_fill mc_Sizes_fill mk_Sizes_fill, (fun_mk (st := s_Sizes_fill) ml_Sizes_fill mc_Sizes_fill mk_Sizes_fill).binds fun _ _ _ _ _ _ => ar3 fun _ _ _ => rfl⟩,
    fun D e => ns_one oa_Grammar e ▸ na_Grammar_signs,
    fun D e => ns_one oa_Grammar e ▸ na_Grammar_start,
    fun D e => ns_one oa_Grammar e ▸ na_Grammar_kept_rules,
    fun D e => ns_one oa_Grammar e ▸ na_Grammar_kept_names,
    ⟨O_Grammar, g_Grammar_init, _, oa_Grammar, ⟨ma_Grammar_init, mf_Grammar_init, mk_Grammar_init⟩, fun_mk ml_Grammar_init mc_Grammar_init mk_Grammar_init, (fun_mk (st := s_Grammar_init) ml_Grammar_init mc_Grammar_init mk_Grammar_init).binds fun _ _ _ _ _ _ => ar4 fun _ _ _ _ => rfl⟩,
    ⟨O_Grammar, g_Grammar_rules, _, oa_Grammar, ⟨ma_Grammar_rules, mf_Grammar_rules, mk_Grammar_rules⟩, fun_mk ml_Grammar_rules mc_Grammar_rules mk_Grammar_rules, (fun_mk (st := s_Grammar_rules) ml_Grammar_rules mc_Grammar_rules mk_Grammar_rules).binds fun _ _ _ _ _ _ => ar1 fun _ => rfl⟩,
    ⟨O_Grammar, g_Grammar_numbers_of, _, oa_Grammar, ⟨ma_Grammar_numbers_of, mf_Grammar_numbers_of, mk_Grammar_numbers_of⟩, fun_mk ml_Grammar_numbers_of mc_Grammar_numbers_of mk_Grammar_numbers_of, (fun_mk (st := s_Grammar_numbers_of) ml_Grammar_numbers_of mc_Grammar_numbers_of mk_Grammar_numbers_of).binds fun _ _ _ _ _ _ => ar2 fun _ _ => rfl⟩,
    ⟨O_Grammar, g_Grammar_told, _, oa_Grammar, ⟨ma_Grammar_told, mf_Grammar_told, mk_Grammar_told⟩, fun_mk ml_Grammar_told mc_Grammar_told mk_Grammar_told, (fun_mk (st := s_Grammar_told) ml_Grammar_told mc_Grammar_told mk_Grammar_told).binds fun _ _ _ _ _ _ => ar1 fun _ => rfl⟩,
    CInit.mk oa_Rule ma_Rule_init ia_Rule ib_Rule ic_Rule,
    OSub.mk oa_CellRule oa_BesideRule oh_BesideRule oc_BesideRule ou_CellRule_BesideRule (fun e => absurd e ov_CellRule_BesideRule),
    OSub.mk oa_CellRule oa_AboveRule oh_AboveRule oc_AboveRule ou_CellRule_AboveRule (fun e => absurd e ov_CellRule_AboveRule),
    OSub.mk oa_CellRule oa_CellRule oh_CellRule oc_CellRule ou_CellRule_CellRule (fun _ => rfl),
    OSub.mk oa_CellRule oa_TurnRule oh_TurnRule oc_TurnRule ou_CellRule_TurnRule (fun e => absurd e ov_CellRule_TurnRule),
    OSub.mk oa_BesideRule oa_BesideRule oh_BesideRule oc_BesideRule ou_BesideRule_BesideRule (fun _ => rfl),
    OSub.mk oa_BesideRule oa_AboveRule oh_AboveRule oc_AboveRule ou_BesideRule_AboveRule (fun e => absurd e ov_BesideRule_AboveRule),
    OSub.mk oa_BesideRule oa_CellRule oh_CellRule oc_CellRule ou_BesideRule_CellRule (fun e => absurd e ov_BesideRule_CellRule),
    OSub.mk oa_BesideRule oa_TurnRule oh_TurnRule oc_TurnRule ou_BesideRule_TurnRule (fun e => absurd e ov_BesideRule_TurnRule),
    OSub.mk oa_AboveRule oa_BesideRule oh_BesideRule oc_BesideRule ou_AboveRule_BesideRule (fun e => absurd e ov_AboveRule_BesideRule),
    OSub.mk oa_AboveRule oa_AboveRule oh_AboveRule oc_AboveRule ou_AboveRule_AboveRule (fun _ => rfl),
    OSub.mk oa_AboveRule oa_CellRule oh_CellRule oc_CellRule ou_AboveRule_CellRule (fun e => absurd e ov_AboveRule_CellRule),
    OSub.mk oa_AboveRule oa_TurnRule oh_TurnRule oc_TurnRule ou_AboveRule_TurnRule (fun e => absurd e ov_AboveRule_TurnRule),
    OSub.mk oa_TurnRule oa_BesideRule oh_BesideRule oc_BesideRule ou_TurnRule_BesideRule (fun e => absurd e ov_TurnRule_BesideRule),
    OSub.mk oa_TurnRule oa_AboveRule oh_AboveRule oc_AboveRule ou_TurnRule_AboveRule (fun e => absurd e ov_TurnRule_AboveRule),
    OSub.mk oa_TurnRule oa_CellRule oh_CellRule oc_CellRule ou_TurnRule_CellRule (fun e => absurd e ov_TurnRule_CellRule),
    OSub.mk oa_TurnRule oa_TurnRule oh_TurnRule oc_TurnRule ou_TurnRule_TurnRule (fun _ => rfl),
    OSub.mk oa_Sizes oa_BesideRule oh_BesideRule oc_BesideRule ou_Sizes_BesideRule (fun e => absurd e ov_Sizes_BesideRule),
    OSub.mk oa_Sizes oa_AboveRule oh_AboveRule oc_AboveRule ou_Sizes_AboveRule (fun e => absurd e ov_Sizes_AboveRule),
    OSub.mk oa_Sizes oa_CellRule oh_CellRule oc_CellRule ou_Sizes_CellRule (fun e => absurd e ov_Sizes_CellRule),
    OSub.mk oa_Sizes oa_TurnRule oh_TurnRule oc_TurnRule ou_Sizes_TurnRule (fun e => absurd e ov_Sizes_TurnRule),
    OSub.mk oa_Grammar oa_BesideRule oh_BesideRule oc_BesideRule ou_Grammar_BesideRule (fun e => absurd e ov_Grammar_BesideRule),
    OSub.mk oa_Grammar oa_AboveRule oh_AboveRule oc_AboveRule ou_Grammar_AboveRule (fun e => absurd e ov_Grammar_AboveRule),
    OSub.mk oa_Grammar oa_CellRule oh_CellRule oc_CellRule ou_Grammar_CellRule (fun e => absurd e ov_Grammar_CellRule),
    OSub.mk oa_Grammar oa_TurnRule oh_TurnRule oc_TurnRule ou_Grammar_TurnRule (fun e => absurd e ov_Grammar_TurnRule),
    df_of X G a_size_of l_size_of c_size_of k_size_of fun _ _ _ _ _ _ => ar1 fun _ => rfl,
    df_of X G a_shown l_shown c_shown k_shown fun _ _ _ _ _ _ => ar1 fun _ => rfl,
    df_of X G a_beside l_beside c_beside k_beside fun _ _ _ _ _ _ => ar2 fun _ _ => rfl,
    df_of X G a_above l_above c_above k_above fun _ _ _ _ _ _ => ar2 fun _ _ => rfl,
    df_of X G a_quarter l_quarter c_quarter k_quarter fun _ _ _ _ _ _ => ar1 fun _ => rfl,
    df_of X G a_mirrored l_mirrored c_mirrored k_mirrored fun _ _ _ _ _ _ => ar1 fun _ => rfl,
    df_of X G a_turned l_turned c_turned k_turned fun _ _ _ _ _ _ => ar2 fun _ _ => rfl,
    df_of X G a_after l_after c_after k_after fun _ _ _ _ _ _ => ar2 fun _ _ => rfl,
    df_of X G a_back l_back c_back k_back fun _ _ _ _ _ _ => ar1 fun _ => rfl,
    df_of X G a_is_name l_is_name c_is_name k_is_name fun _ _ _ _ _ _ => ar1 fun _ => rfl,
    df_of X G a_asked_name l_asked_name c_asked_name k_asked_name fun _ _ _ _ _ _ => ar1 fun _ => rfl,
    df_of X G a_turned_pair l_turned_pair c_turned_pair k_turned_pair fun _ _ _ _ _ _ => ar4 fun _ _ _ _ => rfl,
    df_of X G a_note l_note c_note k_note fun _ _ _ _ _ _ => ar4 fun _ _ _ _ => rfl,
    df_of X G a_made_of l_made_of c_made_of k_made_of fun _ _ _ _ _ _ => ar2 fun _ _ => rfl,
    df_of X G a_cells_of l_cells_of c_cells_of k_cells_of fun _ _ _ _ _ _ => ar1 fun _ => rfl,
    df_of X G a_sizes_within l_sizes_within c_sizes_within k_sizes_within fun _ _ _ _ _ _ => ar2 fun _ _ => rfl,
    df_of X G a_picture_of l_picture_of c_picture_of k_picture_of fun _ _ _ _ _ _ => ar1 fun _ => rfl,
    df_of X G a_pictures_of l_pictures_of c_pictures_of k_pictures_of fun _ _ _ _ _ _ => ar4 fun _ _ _ _ => rfl,
    df_of X G a_are_signs l_are_signs c_are_signs k_are_signs fun _ _ _ _ _ _ => ar1 fun _ => rfl,
    df_of X G a_names_met l_names_met c_names_met k_names_met fun _ _ _ _ _ _ => ar2 fun _ _ => rfl,
    df_of X G a_asked_rules l_asked_rules c_asked_rules k_asked_rules fun _ _ _ _ _ _ => ar2 fun _ _ => rfl,
    df_of X G a_law_cell l_law_cell c_law_cell k_law_cell fun _ _ _ _ _ _ => ar2 fun _ _ => rfl,
    df_of X G a_law_cells l_law_cells c_law_cells k_law_cells fun _ _ _ _ _ _ => ar3 fun _ _ _ => rfl,
    df_of X G a_law_signs l_law_signs c_law_signs k_law_signs fun _ _ _ _ _ _ => ar2 fun _ _ => rfl,
    df_of X G a_law_names l_law_names c_law_names k_law_names fun _ _ _ _ _ _ => ar1 fun _ => rfl,
    df_of X G a_law_rule l_law_rule c_law_rule k_law_rule fun _ _ _ _ _ _ => ar1 fun _ => rfl,
    df_of X G a_law_grammar l_law_grammar c_law_grammar k_law_grammar fun _ _ _ _ _ _ => ar3 fun _ _ _ => rfl,
    df_of X G a_law_turned l_law_turned c_law_turned k_law_turned fun _ _ _ _ _ _ => ar2 fun _ _ => rfl,
    df_of X G a_law_drawn l_law_drawn c_law_drawn k_law_drawn fun _ _ _ _ _ _ => ar3 fun _ _ _ => rfl,
    df_of X G a_law_all l_law_all c_law_all k_law_all fun _ _ _ _ _ _ => ar3 fun _ _ _ => rfl,
    df_of X G a_law_pair l_law_pair c_law_pair k_law_pair fun _ _ _ _ _ _ => ar3 fun _ _ _ => rfl,
    df_of X G a_law_comes l_law_comes c_law_comes k_law_comes fun _ _ _ _ _ _ => ar3 fun _ _ _ => rfl,
    df_of X G a_law_costs l_law_costs c_law_costs k_law_costs fun _ _ _ _ _ _ => ar2 fun _ _ => rfl⟩
theorem all_mk {l : PySem.W.OpenLaw} {w : World} {K : PySem.W.Frag} {h : Heap} {mg : Str → Option Value} {fa : Addr} (X : K.In h) (G : h.Ns mainGlobals mg) (hfa : mg "law" = some (.ref fa)) (T : Txt K mg)
    {f_law : Addr} {od_law an_law : Option Addr} {sl_law : Array (Option Value)} {oc_law kV_law dc_law pm_law cd_law ct_law : Value} (a_law : PySem.W.nsIn K mainGlobals "law" = some (some (.ref f_law))) (l_law : K.lookup f_law = some ⟨oc_law, od_law, .func (PySem.W.fnOf "law" "law" (defArgs s_law) (defBody s_law) (defScope s_law) .none kV_law dc_law pm_law an_law cd_law ct_law), sl_law⟩) (c_law : PySem.W.codeIn K cd_law "law" = true) (k_law : PySem.W.keepIn K (.ref f_law) = true) :
    ∃ fd : FuncData, (∀ (s : Shared) (v : Value), BindsTo s fd ⟨[v], []⟩ [("_law_script", v)]) ∧ ∀ base : Heap, K.In base → base.Ns mainGlobals mg → FnOk l.prog w K mg base (L2.CX l.prog w) 95 fa fd ["_law_script"] (spOf K lawS) := by
  have e := hfa.symm.trans (PySem.W.mg_of X G a_law)
  cases e
  exact ⟨PySem.W.fnOf "law" "law" (defArgs s_law) (defBody s_law) (defScope s_law) .none kV_law dc_law pm_law an_law cd_law ct_law, fun s v => .of_eq rfl, fun base _ _ => law_fn (fun_mk l_law c_law k_law) sc_law (body_law T)⟩
end Law
namespace Hd
open PySem PySem.W PyProof.Rows
theorem split3 {S A B C : Type} {x : Option S} {f : S → A} {g : S → B} {h : S → C} {a : A} {b : B} {c : C} (h1 : x.map f = some a) (h2 : x.map g = some b) (h3 : x.map h = some c) : x.map (fun s => (f s, g s, h s)) = some (a, b, c) := by
  cases x with
  | none => cases h1
  | some s => cases h1; cases h2; cases h3; rfl
noncomputable abbrev pr := PySem.Challenge.rw_quiltlaw_k40_pictures_by_rounds.row.prog
noncomputable abbrev qq : Program := view pr [65]
noncomputable abbrev lo : List PySem.Str := ([PySem.Str.ofString "QuiltError", PySem.Str.ofString "NoFit", PySem.Str.ofString "NoRule", PySem.Str.ofString "NoGrammar", PySem.Str.ofString "NoName", PySem.Str.ofString "TooMany", PySem.Str.ofString "MOST", PySem.Str.ofString "size_of", PySem.Str.ofString "shown", PySem.Str.ofString "beside", PySem.Str.ofString "above", PySem.Str.ofString "MIRROR", PySem.Str.ofString "quarter", PySem.Str.ofString "mirrored", PySem.Str.ofString "turned", PySem.Str.ofString "after", PySem.Str.ofString "back", PySem.Str.ofString "CAPITALS", PySem.Str.ofString "SMALL", PySem.Str.ofString "MOST_LETTERS", PySem.Str.ofString "MOST_COST", PySem.Str.ofString "is_name", PySem.Str.ofString "asked_name", PySem.Str.ofString "Rule", PySem.Str.ofString "CellRule", PySem.Str.ofString "turned_pair", PySem.Str.ofString "BesideRule", PySem.Str.ofString "AboveRule", PySem.Str.ofString "TurnRule", PySem.Str.ofString "MOST_PICTURES"] : List PySem.Str) ++ ([PySem.Str.ofString "note", PySem.Str.ofString "made_of", PySem.Str.ofString "Sizes", PySem.Str.ofString "cells_of", PySem.Str.ofString "sizes_within", PySem.Str.ofString "picture_of", PySem.Str.ofString "pictures_of", PySem.Str.ofString "MOST_SIGNS", PySem.Str.ofString "MOST_RULES", PySem.Str.ofString "MOST_NAMES", PySem.Str.ofString "are_signs", PySem.Str.ofString "names_met", PySem.Str.ofString "asked_rules", PySem.Str.ofString "Grammar", PySem.Str.ofString "_law_cell", PySem.Str.ofString "_law_cells", PySem.Str.ofString "_law_whole", PySem.Str.ofString "_law_signs", PySem.Str.ofString "_law_names", PySem.Str.ofString "_law_rule", PySem.Str.ofString "_law_grammar", PySem.Str.ofString "_law_turned", PySem.Str.ofString "_law_joined", PySem.Str.ofString "_law_drawn", PySem.Str.ofString "_law_all", PySem.Str.ofString "_law_pair", PySem.Str.ofString "_law_comes", PySem.Str.ofString "_law_costs"] : List PySem.Str)
noncomputable def st : Stmt := pr.main.body.getD 65 (.Pass ⟨0, 0, 0, 0⟩)
noncomputable def posOf : Stmt → Pos
  | .FunctionDef _ _ _ _ _ _ _ _ _ p => p
  | _ => ⟨0, 0, 0, 0⟩
noncomputable abbrev ld : DefRec := ⟨"law", L2.defArgs st, L2.defBody st, L2.defScope st, posOf st⟩
theorem run_looks (w : World) (os : OsState) : (HeadRun.endF (HeadRun.stepQ (HeadRun.denQ HeadRun.tabQ) pr w) 20000 pr w os).map (fun s => HeadRun.looksF pr (boot_heap w.params) s.abs) = some true := by kernel_rfl
theorem run_seen (w : World) (os : OsState) : (HeadRun.endF (HeadRun.stepQ (HeadRun.denQ HeadRun.tabQ) pr w) 20000 pr w os).map (fun s => HeadRun.seenQ qq lo (importedModules pr.main.body) (fun s => xlAt qq [] s && recOk PySem.Challenge.rw_quiltlaw_k40_pictures_by_rounds.row.records s) s.abs) = some (openGood qq lo) := by kernel_rfl
end Hd
open PySem PySem.W PyProof.Rows
set_option hygiene false in
local macro_rules | `(tactic| o_head $H) => `(tactic| (
  refine PySem.W.holds_open (q := Hd.qq) (loose := Hd.lo) (d := Hd.ld) (kwd := []) (Xt := fun s => xlAt Hd.qq [] s && recOk PySem.Challenge.rw_quiltlaw_k40_pictures_by_rounds.row.records s) (XP := XL Hd.qq []) (Yf := Hook.obs $H) (Ya := Hook.val $H) (YP := Hook.says $H) (N := 21000) ?hl (Hook.of $H) (Hook.keeps $H) (fun s e => xl_of s (Bool.and_eq_true_iff.mp e).1) XL.keeps (by kernel_rfl) (by kernel_rfl) (by kernel_rfl) (fun s e => recFacts_of (Bool.and_eq_true_iff.mp e).2) (by rfl) (by first | assumption | decide +kernel) (by decide +kernel) ⟨rfl, rfl, rfl, rfl, rfl, by decide +kernel⟩ ?hw ?hc
  case hl =>
    refine HeadRun.left_oneK (M := 20000) (by kernel_rfl) (by rfl) (fun s => by kernel_rfl) (by rfl) ?_
    intro w os
    with_reducible refine Hd.split3 ?_ ?_ ?_
    · exact Eq.mpr (by kernel_rfl) (Hd.run_looks w os)
    · exact Eq.mpr (by kernel_rfl) (Hd.run_seen w os)
    · kernel_rfl))
open PySem PySem.W PyProof.Rows
set_option maxRecDepth 100000 in
set_option maxHeartbeats 0 in
theorem PySem.Challenge.cw_quiltlaw_k40_pictures_by_rounds_holds : PySem.Challenge.rw_quiltlaw_k40_pictures_by_rounds.Holds := by
  w_on; o_law; k_head; (case hw => w_witness2)
  k_fill
  refine L2.walk_of (l := PySem.Challenge.rw_quiltlaw_k40_pictures_by_rounds) (n := 63) (k := 95) (x := "_law_script") (CX := fun w => L2.CX PySem.Challenge.rw_quiltlaw_k40_pictures_by_rounds.prog w) (sp := fun w => Tw.spOf _ Tw.lawS) rfl (by decide) rfl ⟨rfl, by decide, by decide⟩ (fun w h Y => PySem.W.kIn_of Y) ?F (fun _ H a ns hl _ hS => Tw.law_sp _ H a ns hl hS) (fun w H s e s' => Tw.hCX0 _ w H s e s')
  case F =>
    intro w mg fa h KX G hmg
    refine' Law.all_mk KX G hmg (Law.txt_mk KX G ?zb_ValueError ?zb_all ?zb_bool ?zb_enumerate ?zb_int ?zb_isinstance ?zb_len ?zb_list ?zb_max ?zb_min ?zb_range ?zb_reversed ?zb_set ?zb_sorted ?zb_str ?zb_tuple ?zb_zip ?zc_MOST ?zc_MIRROR ?zc_CAPITALS ?zc_SMALL ?zc_MOST_LETTERS ?zc_MOST_COST ?zc_MOST_PICTURES ?zc_MOST_SIGNS ?zc_MOST_RULES ?zc_MOST_NAMES ?xn ?xq ?xa_NoFit ?xk_NoFit ?xt_NoFit ?xg_NoFit ?xh_NoFit ?xs_NoFit ?xd_NoFit ?xc_NoFit ?xm_NoFit ?xa_NoRule ?xk_NoRule ?xt_NoRule ?xg_NoRule ?xh_NoRule ?xs_NoRule ?xd_NoRule ?xc_NoRule ?xm_NoRule ?xa_NoGrammar ?xk_NoGrammar ?xt_NoGrammar ?xg_NoGrammar ?xh_NoGrammar ?xs_NoGrammar ?xd_NoGrammar ?xc_NoGrammar ?xm_NoGrammar ?xa_NoName ?xk_NoName ?xt_NoName ?xg_NoName ?xh_NoName ?xs_NoName ?xd_NoName ?xc_NoName ?xm_NoName ?xa_TooMany ?xk_TooMany ?xt_TooMany ?xg_TooMany ?xh_TooMany ?xs_TooMany ?xd_TooMany ?xc_TooMany ?xm_TooMany ?xa_QuiltError ?xk_QuiltError ?xt_QuiltError ?xg_QuiltError ?xh_QuiltError ?xs_QuiltError ?xd_QuiltError ?xc_QuiltError ?xm_QuiltError ?xp_NoFit ?xp_NoRule ?xl_NoGrammar ?xv_NoGrammar ?xw_NoGrammar ?xf_NoGrammar ?xi_NoGrammar ?xj_NoGrammar ?xo_NoGrammar ?xu_NoGrammar ?xz_NoGrammar ?xp_TooMany ?xp_NoName ?qs_QuiltError ?qr_QuiltError ?qf_QuiltError ?oa_Rule ?ob_Rule ?oc_Rule ?od_Rule ?oe_Rule ?of_Rule ?og_Rule ?oh_Rule ?oi_Rule ?oj_Rule ?oa_CellRule ?ob_CellRule ?oc_CellRule ?od_CellRule ?oe_CellRule ?of_CellRule ?og_CellRule ?oh_CellRule ?oi_CellRule ?oj_CellRule ?oa_BesideRule ?ob_BesideRule ?oc_BesideRule ?od_BesideRule ?oe_BesideRule ?of_BesideRule ?og_BesideRule ?oh_BesideRule ?oi_BesideRule ?oj_BesideRule ?oa_AboveRule ?ob_AboveRule ?oc_AboveRule ?od_AboveRule ?oe_AboveRule ?of_AboveRule ?og_AboveRule ?oh_AboveRule ?oi_AboveRule ?oj_AboveRule ?oa_TurnRule ?ob_TurnRule ?oc_TurnRule ?od_TurnRule ?oe_TurnRule ?of_TurnRule ?og_TurnRule ?oh_TurnRule ?oi_TurnRule ?oj_TurnRule ?oa_Sizes ?ob_Sizes ?oc_Sizes ?od_Sizes ?oe_Sizes ?of_Sizes ?og_Sizes ?oh_Sizes ?oi_Sizes ?oj_Sizes ?oa_Grammar ?ob_Grammar ?oc_Grammar ?od_Grammar ?oe_Grammar ?of_Grammar ?og_Grammar ?oh_Grammar ?oi_Grammar ?oj_Grammar ?na_Rule_name ?na_Rule_cost ?ma_Rule_init ?ml_Rule_init ?mc_Rule_init ?mk_Rule_init ?mf_Rule_init ?na_CellRule_sign ?na_CellRule_name ?na_CellRule_cost ?ma_CellRule_init ?ml_CellRule_init ?mc_CellRule_init ?mk_CellRule_init ?mf_CellRule_init ?ma_CellRule_made ?ml_CellRule_made ?mc_CellRule_made ?mk_CellRule_made ?mf_CellRule_made ?ma_CellRule_told ?ml_CellRule_told ?mc_CellRule_told ?mk_CellRule_told ?mf_CellRule_told ?ma_CellRule_parts ?ml_Rule_parts ?mc_Rule_parts ?mk_Rule_parts ?mf_Rule_parts ?ma_CellRule_begun ?ml_Rule_begun ?mc_Rule_begun ?mk_Rule_begun ?mf_Rule_begun ?na_BesideRule_one ?na_BesideRule_other ?na_BesideRule_name ?na_BesideRule_cost ?ma_BesideRule_init ?ml_BesideRule_init ?mc_BesideRule_init ?mk_BesideRule_init ?mf_BesideRule_init ?ma_BesideRule_parts ?ml_BesideRule_parts ?mc_BesideRule_parts ?mk_BesideRule_parts ?mf_BesideRule_parts ?ma_BesideRule_made ?ml_BesideRule_made ?mc_BesideRule_made ?mk_BesideRule_made ?mf_BesideRule_made ?ma_BesideRule_told ?ml_BesideRule_told ?mc_BesideRule_told ?mk_BesideRule_told ?mf_BesideRule_told ?ma_BesideRule_begun ?na_AboveRule_one ?na_AboveRule_other ?na_AboveRule_name ?na_AboveRule_cost ?ma_AboveRule_init ?ml_AboveRule_init ?mc_AboveRule_init ?mk_AboveRule_init ?mf_AboveRule_init ?ma_AboveRule_parts ?ml_AboveRule_parts ?mc_AboveRule_parts ?mk_AboveRule_parts ?mf_AboveRule_parts ?ma_AboveRule_made ?ml_AboveRule_made ?mc_AboveRule_made ?mk_AboveRule_made ?mf_AboveRule_made ?ma_AboveRule_told ?ml_AboveRule_told ?mc_AboveRule_told ?mk_AboveRule_told ?mf_AboveRule_told ?ma_AboveRule_begun ?na_TurnRule_part ?na_TurnRule_turning ?na_TurnRule_name ?na_TurnRule_cost ?ma_TurnRule_init ?ml_TurnRule_init ?mc_TurnRule_init ?mk_TurnRule_init ?mf_TurnRule_init ?ma_TurnRule_parts ?ml_TurnRule_parts ?mc_TurnRule_parts ?mk_TurnRule_parts ?mf_TurnRule_parts ?ma_TurnRule_made ?ml_TurnRule_made ?mc_TurnRule_made ?mk_TurnRule_made ?mf_TurnRule_made ?ma_TurnRule_told ?ml_TurnRule_told ?mc_TurnRule_told ?mk_TurnRule_told ?mf_TurnRule_told ?ma_TurnRule_begun ?na_Sizes_grammar ?na_Sizes_kept ?ma_Sizes_init ?ml_Sizes_init ?mc_Sizes_init ?mk_Sizes_init ?mf_Sizes_init ?ma_Sizes_put ?ml_Sizes_put ?mc_Sizes_put ?mk_Sizes_put ?mf_Sizes_put ?ma_Sizes_begun ?ml_Sizes_begun ?mc_Sizes_begun ?mk_Sizes_begun ?mf_Sizes_begun ?ma_Sizes_turned_on ?ml_Sizes_turned_on ?mc_Sizes_turned_on ?mk_Sizes_turned_on ?mf_Sizes_turned_on ?ma_Sizes_fill ?ml_Sizes_fill ?mc_Sizes_fill ?mk_Sizes_fill ?mf_Sizes_fill ?na_Grammar_signs ?na_Grammar_start ?na_Grammar_kept_rules ?na_Grammar_kept_names ?ma_Grammar_init ?ml_Grammar_init ?mc_Grammar_init ?mk_Grammar_init ?mf_Grammar_init ?ma_Grammar_rules ?ml_Grammar_rules ?mc_Grammar_rules ?mk_Grammar_rules ?mf_Grammar_rules ?ma_Grammar_numbers_of ?ml_Grammar_numbers_of ?mc_Grammar_numbers_of ?mk_Grammar_numbers_of ?mf_Grammar_numbers_of ?ma_Grammar_told ?ml_Grammar_told ?mc_Grammar_told ?mk_Grammar_told ?mf_Grammar_told ?ia_Rule ?ib_Rule ?ic_Rule ?ou_CellRule_BesideRule ?ov_CellRule_BesideRule ?ou_CellRule_AboveRule ?ov_CellRule_AboveRule ?ou_CellRule_CellRule ?ou_CellRule_TurnRule ?ov_CellRule_TurnRule ?ou_BesideRule_BesideRule ?ou_BesideRule_AboveRule ?ov_BesideRule_AboveRule ?ou_BesideRule_CellRule ?ov_BesideRule_CellRule ?ou_BesideRule_TurnRule ?ov_BesideRule_TurnRule ?ou_AboveRule_BesideRule ?ov_AboveRule_BesideRule ?ou_AboveRule_AboveRule ?ou_AboveRule_CellRule ?ov_AboveRule_CellRule ?ou_AboveRule_TurnRule ?ov_AboveRule_TurnRule ?ou_TurnRule_BesideRule ?ov_TurnRule_BesideRule ?ou_TurnRule_AboveRule ?ov_TurnRule_AboveRule ?ou_TurnRule_CellRule ?ov_TurnRule_CellRule ?ou_TurnRule_TurnRule ?ou_Sizes_BesideRule ?ov_Sizes_BesideRule ?ou_Sizes_AboveRule ?ov_Sizes_AboveRule ?ou_Sizes_CellRule ?ov_Sizes_CellRule ?ou_Sizes_TurnRule ?ov_Sizes_TurnRule ?ou_Grammar_BesideRule ?ov_Grammar_BesideRule ?ou_Grammar_AboveRule ?ov_Grammar_AboveRule ?ou_Grammar_CellRule ?ov_Grammar_CellRule ?ou_Grammar_TurnRule ?ov_Grammar_TurnRule ?a_size_of ?l_size_of ?c_size_of ?k_size_of ?a_shown ?l_shown ?c_shown ?k_shown ?a_beside ?l_beside ?c_beside ?k_beside ?a_above ?l_above ?c_above ?k_above ?a_quarter ?l_quarter ?c_quarter ?k_quarter ?a_mirrored ?l_mirrored ?c_mirrored ?k_mirrored ?a_turned ?l_turned ?c_turned ?k_turned ?a_after ?l_after ?c_after ?k_after ?a_back ?l_back ?c_back ?k_back ?a_is_name ?l_is_name ?c_is_name ?k_is_name ?a_asked_name ?l_asked_name ?c_asked_name ?k_asked_name ?a_turned_pair ?l_turned_pair ?c_turned_pair ?k_turned_pair ?a_note ?l_note ?c_note ?k_note ?a_made_of ?l_made_of ?c_made_of ?k_made_of ?a_cells_of ?l_cells_of ?c_cells_of ?k_cells_of ?a_sizes_within ?l_sizes_within ?c_sizes_within ?k_sizes_within ?a_picture_of ?l_picture_of ?c_picture_of ?k_picture_of ?a_pictures_of ?l_pictures_of ?c_pictures_of ?k_pictures_of ?a_are_signs ?l_are_signs ?c_are_signs ?k_are_signs ?a_names_met ?l_names_met ?c_names_met ?k_names_met ?a_asked_rules ?l_asked_rules ?c_asked_rules ?k_asked_rules ?a_law_cell ?l_law_cell ?c_law_cell ?k_law_cell ?a_law_cells ?l_law_cells ?c_law_cells ?k_law_cells ?a_law_signs ?l_law_signs ?c_law_signs ?k_law_signs ?a_law_names ?l_law_names ?c_law_names ?k_law_names ?a_law_rule ?l_law_rule ?c_law_rule ?k_law_rule ?a_law_grammar ?l_law_grammar ?c_law_grammar ?k_law_grammar ?a_law_turned ?l_law_turned ?c_law_turned ?k_law_turned ?a_law_drawn ?l_law_drawn ?c_law_drawn ?k_law_drawn ?a_law_all ?l_law_all ?c_law_all ?k_law_all ?a_law_pair ?l_law_pair ?c_law_pair ?k_law_pair ?a_law_comes ?l_law_comes ?c_law_comes ?k_law_comes ?a_law_costs ?l_law_costs ?c_law_costs ?k_law_costs) ?a_law ?l_law ?c_law ?k_law
    (case zb_ValueError => k_is)
    (case zb_all => k_is)
    (case zb_bool => k_is)
    (case zb_enumerate => k_is)
    (case zb_int => k_is)
    (case zb_isinstance => k_is)
    (case zb_len => k_is)
    (case zb_list => k_is)
    (case zb_max => k_is)
    (case zb_min => k_is)
    (case zb_range => k_is)
    (case zb_reversed => k_is)
    (case zb_set => k_is)
    (case zb_sorted => k_is)
    (case zb_str => k_is)
    (case zb_tuple => k_is)
    (case zb_zip => k_is)
    (case zc_MOST => k_is)
    (case zc_MIRROR => k_is)
    (case zc_CAPITALS => k_is)
    (case zc_SMALL => k_is)
    (case zc_MOST_LETTERS => k_is)
    (case zc_MOST_COST => k_is)
    (case zc_MOST_PICTURES => k_is)
    (case zc_MOST_SIGNS => k_is)
    (case zc_MOST_RULES => k_is)
    (case zc_MOST_NAMES => k_is)
    (case xn => k_is)
    (case xq => k_is)
    (case xa_NoFit => k_is)
    (case xk_NoFit => k_is)
    (case xt_NoFit => k_is)
    (case xg_NoFit => k_is)
    (case xh_NoFit => k_is)
    (case xs_NoFit => k_is)
    (case xd_NoFit => k_is)
    (case xc_NoFit => k_is)
    (case xm_NoFit => k_is)
    (case xa_NoRule => k_is)
    (case xk_NoRule => k_is)
    (case xt_NoRule => k_is)
    (case xg_NoRule => k_is)
    (case xh_NoRule => k_is)
    (case xs_NoRule => k_is)
    (case xd_NoRule => k_is)
    (case xc_NoRule => k_is)
    (case xm_NoRule => k_is)
    (case xa_NoGrammar => k_is)
    (case xk_NoGrammar => k_is)
    (case xt_NoGrammar => k_is)
    (case xg_NoGrammar => k_is)
    (case xh_NoGrammar => k_is)
    (case xs_NoGrammar => k_is)
    (case xd_NoGrammar => k_is)
    (case xc_NoGrammar => k_is)
    (case xm_NoGrammar => k_is)
    (case xa_NoName => k_is)
    (case xk_NoName => k_is)
    (case xt_NoName => k_is)
    (case xg_NoName => k_is)
    (case xh_NoName => k_is)
    (case xs_NoName => k_is)
    (case xd_NoName => k_is)
    (case xc_NoName => k_is)
    (case xm_NoName => k_is)
    (case xa_TooMany => k_is)
    (case xk_TooMany => k_is)
    (case xt_TooMany => k_is)
    (case xg_TooMany => k_is)
    (case xh_TooMany => k_is)
    (case xs_TooMany => k_is)
    (case xd_TooMany => k_is)
    (case xc_TooMany => k_is)
    (case xm_TooMany => k_is)
    (case xa_QuiltError => k_is)
    (case xk_QuiltError => k_is)
    (case xt_QuiltError => k_is)
    (case xg_QuiltError => k_is)
    (case xh_QuiltError => k_is)
    (case xs_QuiltError => k_is)
    (case xd_QuiltError => k_is)
    (case xc_QuiltError => k_is)
    (case xm_QuiltError => k_is)
    (case xp_NoFit => k_exc)
    (case xp_NoRule => k_exc)
    (case xl_NoGrammar => k_is)
    (case xv_NoGrammar => decide +kernel)
    (case xw_NoGrammar => k_is)
    (case xf_NoGrammar => k_is)
    (case xi_NoGrammar => k_is)
    (case xj_NoGrammar => k_is)
    (case xo_NoGrammar => k_is)
    (case xu_NoGrammar => k_is)
    (case xz_NoGrammar => k_is)
    (case xp_TooMany => k_exc)
    (case xp_NoName => k_exc)
    (case qs_QuiltError => k_is)
    (case qr_QuiltError => k_is)
    (case qf_QuiltError => k_is)
    (case oa_Rule => k_is)
    (case ob_Rule => k_is)
    (case oc_Rule => k_is)
    (case od_Rule => k_is)
    (case oe_Rule => k_is)
    (case of_Rule => k_is)
    (case og_Rule => k_is)
    (case oh_Rule => k_is)
    (case oi_Rule => k_is)
    (case oj_Rule => k_is)
    (case oa_CellRule => k_is)
    (case ob_CellRule => k_is)
    (case oc_CellRule => k_is)
    (case od_CellRule => k_is)
    (case oe_CellRule => k_is)
    (case of_CellRule => k_is)
    (case og_CellRule => k_is)
    (case oh_CellRule => k_is)
    (case oi_CellRule => k_is)
    (case oj_CellRule => k_is)
    (case oa_BesideRule => k_is)
    (case ob_BesideRule => k_is)
    (case oc_BesideRule => k_is)
    (case od_BesideRule => k_is)
    (case oe_BesideRule => k_is)
    (case of_BesideRule => k_is)
    (case og_BesideRule => k_is)
    (case oh_BesideRule => k_is)
    (case oi_BesideRule => k_is)
    (case oj_BesideRule => k_is)
    (case oa_AboveRule => k_is)
    (case ob_AboveRule => k_is)
    (case oc_AboveRule => k_is)
    (case od_AboveRule => k_is)
    (case oe_AboveRule => k_is)
    (case of_AboveRule => k_is)
    (case og_AboveRule => k_is)
    (case oh_AboveRule => k_is)
    (case oi_AboveRule => k_is)
    (case oj_AboveRule => k_is)
    (case oa_TurnRule => k_is)
    (case ob_TurnRule => k_is)
    (case oc_TurnRule => k_is)
    (case od_TurnRule => k_is)
    (case oe_TurnRule => k_is)
    (case of_TurnRule => k_is)
    (case og_TurnRule => k_is)
    (case oh_TurnRule => k_is)
    (case oi_TurnRule => k_is)
    (case oj_TurnRule => k_is)
    (case oa_Sizes => k_is)
    (case ob_Sizes => k_is)
    (case oc_Sizes => k_is)
    (case od_Sizes => k_is)
    (case oe_Sizes => k_is)
    (case of_Sizes => k_is)
    (case og_Sizes => k_is)
    (case oh_Sizes => k_is)
    (case oi_Sizes => k_is)
    (case oj_Sizes => k_is)
    (case oa_Grammar => k_is)
    (case ob_Grammar => k_is)
    (case oc_Grammar => k_is)
    (case od_Grammar => k_is)
    (case oe_Grammar => k_is)
    (case of_Grammar => k_is)
    (case og_Grammar => k_is)
    (case oh_Grammar => k_is)
    (case oi_Grammar => k_is)
    (case oj_Grammar => k_is)
    (case na_Rule_name => k_is)
    (case na_Rule_cost => k_is)
    (case ma_Rule_init => k_is)
    (case ml_Rule_init => k_is)
    (case mc_Rule_init => k_is)
    (case mk_Rule_init => k_is)
    (case mf_Rule_init => k_is)
    (case na_CellRule_sign => k_is)
    (case na_CellRule_name => k_is)
    (case na_CellRule_cost => k_is)
    (case ma_CellRule_init => k_is)
    (case ml_CellRule_init => k_is)
    (case mc_CellRule_init => k_is)
    (case mk_CellRule_init => k_is)
    (case mf_CellRule_init => k_is)
    (case ma_CellRule_made => k_is)
    (case ml_CellRule_made => k_is)
    (case mc_CellRule_made => k_is)
    (case mk_CellRule_made => k_is)
    (case mf_CellRule_made => k_is)
    (case ma_CellRule_told => k_is)
    (case ml_CellRule_told => k_is)
    (case mc_CellRule_told => k_is)
    (case mk_CellRule_told => k_is)
    (case mf_CellRule_told => k_is)
    (case ma_CellRule_parts => k_is)
    (case ml_Rule_parts => k_is)
    (case mc_Rule_parts => k_is)
    (case mk_Rule_parts => k_is)
    (case mf_Rule_parts => k_is)
    (case ma_CellRule_begun => k_is)
    (case ml_Rule_begun => k_is)
    (case mc_Rule_begun => k_is)
    (case mk_Rule_begun => k_is)
    (case mf_Rule_begun => k_is)
    (case na_BesideRule_one => k_is)
    (case na_BesideRule_other => k_is)
    (case na_BesideRule_name => k_is)
    (case na_BesideRule_cost => k_is)
    (case ma_BesideRule_init => k_is)
    (case ml_BesideRule_init => k_is)
    (case mc_BesideRule_init => k_is)
    (case mk_BesideRule_init => k_is)
    (case mf_BesideRule_init => k_is)
    (case ma_BesideRule_parts => k_is)
    (case ml_BesideRule_parts => k_is)
    (case mc_BesideRule_parts => k_is)
    (case mk_BesideRule_parts => k_is)
    (case mf_BesideRule_parts => k_is)
    (case ma_BesideRule_made => k_is)
    (case ml_BesideRule_made => k_is)
    (case mc_BesideRule_made => k_is)
    (case mk_BesideRule_made => k_is)
    (case mf_BesideRule_made => k_is)
    (case ma_BesideRule_told => k_is)
    (case ml_BesideRule_told => k_is)
    (case mc_BesideRule_told => k_is)
    (case mk_BesideRule_told => k_is)
    (case mf_BesideRule_told => k_is)
    (case ma_BesideRule_begun => k_is)
    (case na_AboveRule_one => k_is)
    (case na_AboveRule_other => k_is)
    (case na_AboveRule_name => k_is)
    (case na_AboveRule_cost => k_is)
    (case ma_AboveRule_init => k_is)
    (case ml_AboveRule_init => k_is)
    (case mc_AboveRule_init => k_is)
    (case mk_AboveRule_init => k_is)
    (case mf_AboveRule_init => k_is)
    (case ma_AboveRule_parts => k_is)
    (case ml_AboveRule_parts => k_is)
    (case mc_AboveRule_parts => k_is)
    (case mk_AboveRule_parts => k_is)
    (case mf_AboveRule_parts => k_is)
    (case ma_AboveRule_made => k_is)
    (case ml_AboveRule_made => k_is)
    (case mc_AboveRule_made => k_is)
    (case mk_AboveRule_made => k_is)
    (case mf_AboveRule_made => k_is)
    (case ma_AboveRule_told => k_is)
    (case ml_AboveRule_told => k_is)
    (case mc_AboveRule_told => k_is)
    (case mk_AboveRule_told => k_is)
    (case mf_AboveRule_told => k_is)
    (case ma_AboveRule_begun => k_is)
    (case na_TurnRule_part => k_is)
    (case na_TurnRule_turning => k_is)
    (case na_TurnRule_name => k_is)
    (case na_TurnRule_cost => k_is)
    (case ma_TurnRule_init => k_is)
    (case ml_TurnRule_init => k_is)
    (case mc_TurnRule_init => k_is)
    (case mk_TurnRule_init => k_is)
    (case mf_TurnRule_init => k_is)
    (case ma_TurnRule_parts => k_is)
    (case ml_TurnRule_parts => k_is)
    (case mc_TurnRule_parts => k_is)
    (case mk_TurnRule_parts => k_is)
    (case mf_TurnRule_parts => k_is)
    (case ma_TurnRule_made => k_is)
    (case ml_TurnRule_made => k_is)
    (case mc_TurnRule_made => k_is)
    (case mk_TurnRule_made => k_is)
    (case mf_TurnRule_made => k_is)
    (case ma_TurnRule_told => k_is)
    (case ml_TurnRule_told => k_is)
    (case mc_TurnRule_told => k_is)
    (case mk_TurnRule_told => k_is)
    (case mf_TurnRule_told => k_is)
    (case ma_TurnRule_begun => k_is)
    (case na_Sizes_grammar => k_is)
    (case na_Sizes_kept => k_is)
    (case ma_Sizes_init => k_is)
    (case ml_Sizes_init => k_is)
    (case mc_Sizes_init => k_is)
    (case mk_Sizes_init => k_is)
    (case mf_Sizes_init => k_is)
    (case ma_Sizes_put => k_is)
    (case ml_Sizes_put => k_is)
    (case mc_Sizes_put => k_is)
    (case mk_Sizes_put => k_is)
    (case mf_Sizes_put => k_is)
    (case ma_Sizes_begun => k_is)
    (case ml_Sizes_begun => k_is)
    (case mc_Sizes_begun => k_is)
    (case mk_Sizes_begun => k_is)
    (case mf_Sizes_begun => k_is)
    (case ma_Sizes_turned_on => k_is)
    (case ml_Sizes_turned_on => k_is)
    (case mc_Sizes_turned_on => k_is)
    (case mk_Sizes_turned_on => k_is)
    (case mf_Sizes_turned_on => k_is)
    (case ma_Sizes_fill => k_is)
    (case ml_Sizes_fill => k_is)
    (case mc_Sizes_fill => k_is)
    (case mk_Sizes_fill => k_is)
    (case mf_Sizes_fill => k_is)
    (case na_Grammar_signs => k_is)
    (case na_Grammar_start => k_is)
    (case na_Grammar_kept_rules => k_is)
    (case na_Grammar_kept_names => k_is)
    (case ma_Grammar_init => k_is)
    (case ml_Grammar_init => k_is)
    (case mc_Grammar_init => k_is)
    (case mk_Grammar_init => k_is)
    (case mf_Grammar_init => k_is)
    (case ma_Grammar_rules => k_is)
    (case ml_Grammar_rules => k_is)
    (case mc_Grammar_rules => k_is)
    (case mk_Grammar_rules => k_is)
    (case mf_Grammar_rules => k_is)
    (case ma_Grammar_numbers_of => k_is)
    (case ml_Grammar_numbers_of => k_is)
    (case mc_Grammar_numbers_of => k_is)
    (case mk_Grammar_numbers_of => k_is)
    (case mf_Grammar_numbers_of => k_is)
    (case ma_Grammar_told => k_is)
    (case ml_Grammar_told => k_is)
    (case mc_Grammar_told => k_is)
    (case mk_Grammar_told => k_is)
    (case mf_Grammar_told => k_is)
    (case ia_Rule => k_is)
    (case ib_Rule => k_is)
    (case ic_Rule => k_is)
    (case ou_CellRule_BesideRule => k_is)
    (case ov_CellRule_BesideRule => decide)
    (case ou_CellRule_AboveRule => k_is)
    (case ov_CellRule_AboveRule => decide)
    (case ou_CellRule_CellRule => k_is)
    (case ou_CellRule_TurnRule => k_is)
    (case ov_CellRule_TurnRule => decide)
    (case ou_BesideRule_BesideRule => k_is)
    (case ou_BesideRule_AboveRule => k_is)
    (case ov_BesideRule_AboveRule => decide)
    (case ou_BesideRule_CellRule => k_is)
    (case ov_BesideRule_CellRule => decide)
    (case ou_BesideRule_TurnRule => k_is)
    (case ov_BesideRule_TurnRule => decide)
    (case ou_AboveRule_BesideRule => k_is)
    (case ov_AboveRule_BesideRule => decide)
    (case ou_AboveRule_AboveRule => k_is)
    (case ou_AboveRule_CellRule => k_is)
    (case ov_AboveRule_CellRule => decide)
    (case ou_AboveRule_TurnRule => k_is)
    (case ov_AboveRule_TurnRule => decide)
    (case ou_TurnRule_BesideRule => k_is)
    (case ov_TurnRule_BesideRule => decide)
    (case ou_TurnRule_AboveRule => k_is)
    (case ov_TurnRule_AboveRule => decide)
    (case ou_TurnRule_CellRule => k_is)
    (case ov_TurnRule_CellRule => decide)
    (case ou_TurnRule_TurnRule => k_is)
    (case ou_Sizes_BesideRule => k_is)
    (case ov_Sizes_BesideRule => decide)
    (case ou_Sizes_AboveRule => k_is)
    (case ov_Sizes_AboveRule => decide)
    (case ou_Sizes_CellRule => k_is)
    (case ov_Sizes_CellRule => decide)
    (case ou_Sizes_TurnRule => k_is)
    (case ov_Sizes_TurnRule => decide)
    (case ou_Grammar_BesideRule => k_is)
    (case ov_Grammar_BesideRule => decide)
    (case ou_Grammar_AboveRule => k_is)
    (case ov_Grammar_AboveRule => decide)
    (case ou_Grammar_CellRule => k_is)
    (case ov_Grammar_CellRule => decide)
    (case ou_Grammar_TurnRule => k_is)
    (case ov_Grammar_TurnRule => decide)
    (case a_size_of => k_is)
    (case l_size_of => k_is)
    (case c_size_of => k_is)
    (case k_size_of => k_is)
    (case a_shown => k_is)
    (case l_shown => k_is)
    (case c_shown => k_is)
    (case k_shown => k_is)
    (case a_beside => k_is)
    (case l_beside => k_is)
    (case c_beside => k_is)
    (case k_beside => k_is)
    (case a_above => k_is)
    (case l_above => k_is)
    (case c_above => k_is)
    (case k_above => k_is)
    (case a_quarter => k_is)
    (case l_quarter => k_is)
    (case c_quarter => k_is)
    (case k_quarter => k_is)
    (case a_mirrored => k_is)
    (case l_mirrored => k_is)
    (case c_mirrored => k_is)
    (case k_mirrored => k_is)
    (case a_turned => k_is)
    (case l_turned => k_is)
    (case c_turned => k_is)
    (case k_turned => k_is)
    (case a_after => k_is)
    (case l_after => k_is)
    (case c_after => k_is)
    (case k_after => k_is)
    (case a_back => k_is)
    (case l_back => k_is)
    (case c_back => k_is)
    (case k_back => k_is)
    (case a_is_name => k_is)
    (case l_is_name => k_is)
    (case c_is_name => k_is)
    (case k_is_name => k_is)
    (case a_asked_name => k_is)
    (case l_asked_name => k_is)
    (case c_asked_name => k_is)
    (case k_asked_name => k_is)
    (case a_turned_pair => k_is)
    (case l_turned_pair => k_is)
    (case c_turned_pair => k_is)
    (case k_turned_pair => k_is)
    (case a_note => k_is)
    (case l_note => k_is)
    (case c_note => k_is)
    (case k_note => k_is)
    (case a_made_of => k_is)
    (case l_made_of => k_is)
    (case c_made_of => k_is)
    (case k_made_of => k_is)
    (case a_cells_of => k_is)
    (case l_cells_of => k_is)
    (case c_cells_of => k_is)
    (case k_cells_of => k_is)
    (case a_sizes_within => k_is)
    (case l_sizes_within => k_is)
    (case c_sizes_within => k_is)
    (case k_sizes_within => k_is)
    (case a_picture_of => k_is)
    (case l_picture_of => k_is)
    (case c_picture_of => k_is)
    (case k_picture_of => k_is)
    (case a_pictures_of => k_is)
    (case l_pictures_of => k_is)
    (case c_pictures_of => k_is)
    (case k_pictures_of => k_is)
    (case a_are_signs => k_is)
    (case l_are_signs => k_is)
    (case c_are_signs => k_is)
    (case k_are_signs => k_is)
    (case a_names_met => k_is)
    (case l_names_met => k_is)
    (case c_names_met => k_is)
    (case k_names_met => k_is)
    (case a_asked_rules => k_is)
    (case l_asked_rules => k_is)
    (case c_asked_rules => k_is)
    (case k_asked_rules => k_is)
    (case a_law_cell => k_is)
    (case l_law_cell => k_is)
    (case c_law_cell => k_is)
    (case k_law_cell => k_is)
    (case a_law_cells => k_is)
    (case l_law_cells => k_is)
    (case c_law_cells => k_is)
    (case k_law_cells => k_is)
    (case a_law_signs => k_is)
    (case l_law_signs => k_is)
    (case c_law_signs => k_is)
    (case k_law_signs => k_is)
    (case a_law_names => k_is)
    (case l_law_names => k_is)
    (case c_law_names => k_is)
    (case k_law_names => k_is)
    (case a_law_rule => k_is)
    (case l_law_rule => k_is)
    (case c_law_rule => k_is)
    (case k_law_rule => k_is)
    (case a_law_grammar => k_is)
    (case l_law_grammar => k_is)
    (case c_law_grammar => k_is)
    (case k_law_grammar => k_is)
    (case a_law_turned => k_is)
    (case l_law_turned => k_is)
    (case c_law_turned => k_is)
    (case k_law_turned => k_is)
    (case a_law_drawn => k_is)
    (case l_law_drawn => k_is)
    (case c_law_drawn => k_is)
    (case k_law_drawn => k_is)
    (case a_law_all => k_is)
    (case l_law_all => k_is)
    (case c_law_all => k_is)
    (case k_law_all => k_is)
    (case a_law_pair => k_is)
    (case l_law_pair => k_is)
    (case c_law_pair => k_is)
    (case k_law_pair => k_is)
    (case a_law_comes => k_is)
    (case l_law_comes => k_is)
    (case c_law_comes => k_is)
    (case k_law_comes => k_is)
    (case a_law_costs => k_is)
    (case l_law_costs => k_is)
    (case c_law_costs => k_is)
    (case k_law_costs => k_is)
    (case a_law => k_is)
    (case l_law => k_is)
    (case c_law => k_is)
    (case k_law => k_is)
