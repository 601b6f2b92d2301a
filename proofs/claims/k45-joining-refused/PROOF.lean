import PyProof.Rows.All
import Wide.All
import OpenK.AllK
import Wide.FinOn
import HandS.ForMost
import HandS.ForExc
import HandS.Wide
import HandS.EndBits
import HandS.IsInst
import HandS.ExcInit
import HandS.ExcIs
import HandS.RevTup
import HandS.MapObj
import HandS.MapJoin
import HandS.Rev
import HandS.DictComp
import HandS.Strs
import HandS.TupSets
import HandS.Zip
import PySem.Challenge.RW_quiltlaw_k45_joining_refused
set_option Elab.async false
set_option linter.all false
set_option maxRecDepth 100000
set_option maxHeartbeats 4000000
/-! RevStr: sep.join(reversed(text)): what the library lacks for turnings.mirrored. -/
namespace RevS
open PySem PySem.Spec PyProof.Rows RT MpR

theorem norev_str : typeLookup (.type "str") "__reversed__" = pure none := by rw [typeLookup_type, builtinLookup_eq_fast]; kernel_rfl
theorem get_str : typeLookup (.type "str") "__getitem__" = pure (some (.builtin "str.__getitem__")) := by rw [typeLookup_type, builtinLookup_eq_fast]; kernel_rfl
theorem sub_str_dict : isSubtype (.type "str") (.type "dict") = pure false := by rw [isSubtype_type]; kernel_rfl
theorem nolen_rev : typeLookup (.type "reversed") "__len__" = pure none := by rw [typeLookup_type, builtinLookup_eq_fast]; kernel_rfl
theorem slot_hint : Slot "reversed" "__length_hint__" "reversed.__length_hint__" :=
  .of (owner := "reversed") (n := "__length_hint__") (by rw [typeLookup_type, builtinLookup_eq_fast]; kernel_rfl) (by decide +kernel) (by decide +kernel) (by decide +kernel)
    (by first | exact .inl (by decide +kernel) | exact .inr (by decide +kernel)) (by rw [isSubtype_type]; kernel_rfl)
theorem entry_hint : entryFor table "reversed.__length_hint__" = some Builtin.«reversed.__length_hint__» := entryFor_of_tree (by kernel_rfl)
theorem args_hint (a : Value) : argsOk "reversed.__length_hint__" ⟨[a], []⟩ := by
  unfold argsOk; rw [signature?_of (id := "reversed.__length_hint__") (n := ['_', '_', 't', 'n', 'i', 'h', '_', 'h', 't', 'g', 'n', 'e', 'l', '_', '_']) (o := ['d', 'e', 's', 'r', 'e', 'v', 'e', 'r']) (by kernel_rfl) owner_rt]; kernel_rfl

def rsObj (x : Str) (t : Tok) (i : Int) : Obj := { cls := .type "reversed", data := .fields #[.str x t, rawInt i] }
def IsRs (h : Heap) (a : Addr) (x : Str) (t : Tok) (i : Int) : Prop := ∃ o, h.get? a = some o ∧ o.cls = .type "reversed" ∧ o.data = .fields #[.str x t, rawInt i]
theorem IsRs.at {h h' : Heap} {a : Addr} {x : Str} {t : Tok} {i : Int} (q : IsRs h a x t i) (e : ∀ o, h.get? a = some o → h'.get? a = some o) : IsRs h' a x t i := let ⟨o, ho, r⟩ := q; ⟨o, e _ ho, r⟩
section
variable {prog : Program} {w : World} {A : Around} {E : Value → Shared → Prop} {s : Shared}
theorem IsRs.typeIs {a : Addr} {x : Str} {t : Tok} {i : Int} (q : IsRs s.heap a x t i) : s.TypeIs (.ref a) "reversed" := let ⟨o, ho, hc, _⟩ := q; ⟨o, ho, hc⟩

theorem code_reversed_str {x : Str} {t : Tok} {Q₁ : Value → Shared → Prop} (hz : x.length ≤ sizeLine)
    (h : Q₁ (.ref s.heap.objs.size) { s with heap := s.heap.push (rsObj x t ((x.length : Int) - 1)), toks := s.toks + 1 + 1 }) :
    codeAny (model prog w) A (.call (.builtin "reversed.__new__") ⟨[.type "reversed", .str x t], []⟩) (wants Q₁ E) s := by
  have hT : s.TypeIs (.str x t) "str" := typeIs_str _ _ _
  refine codeAny_of_tree ?_
  show wpAny _ A.in1 (do checkBuiltinCall "reversed.__new__" ⟨[.type "reversed", .str x t], []⟩; again (.builtin "reversed.__new__" ⟨[.type "reversed", .str x t], []⟩)) _ _ s
  refine wpAny_bind (wpAny_of_eq (F.newCall_reversed_1 _) (wpAny_pure ⟨plainId_quiet F.plain_reversed_new _, codeAny_builtin F.entry_reversed_new ?_⟩))
  rw [Around.under_plainId F.plain_reversed_new _]
  unfold Builtin.«reversed.__new__»
  refine wpAny_bind (wpAny_of_eq (newClass_reversed _) ?_)
  try dsimp only
  refine wpAny_bind (wpAny_of_eq (a := ()) (by first | rfl | kernel_rfl) ?_)
  try dsimp only
  refine wpAny_bind (wpAny_of_eq (a := ()) (by first | rfl | kernel_rfl) ?_)
  try dsimp only
  refine wpAny_bind (wpAny_specialOf hT norev_str ?_)
  try dsimp only
  refine wpAny_bind ?_
  wp_delta
  refine wpAny_bind (wpAny_isInstance (T := "str") (U := "dict") (b := false) hT sub_str_dict ?_)
  try dsimp only
  try rw [if_neg Bool.false_ne_true]
  try dsimp only
  refine wpAny_bind (wpAny_specialOf hT get_str ?_)
  try dsimp only
  try rw [if_pos (by decide +kernel)]
  refine wpAny_pure ?_
  try dsimp only
  try rw [if_neg (by decide)]
  try dsimp only
  refine wpAny_bind (P.len_str (by have := L2.line63; omega) ?_)
  refine wpAny_bind (wpAny_of_eq (a := some ((x.length : Nat) : Int)) rfl ?_)
  try dsimp only
  refine wpAny_bind ?_
  show wpAny _ _ (newObj (.type "reversed") (.fields #[.str x t, rawInt ((x.length : Int) - 1)])) _ _ _
  refine wpAny_newObj_type ?_
  exact wpAny_pure h

theorem call_reversed_str {x : Str} {t : Tok} {Q : Value → Shared → Prop} (hz : x.length ≤ sizeLine)
    (h : Q (.ref s.heap.objs.size) { s with heap := s.heap.push (rsObj x t ((x.length : Int) - 1)), toks := s.toks + 1 + 1 }) : wpAny (model prog w) A (call (.type "reversed") [.str x t]) Q E s := by
  refine callType_codes (Q₁ := fun obj s₁ => s₁.TypeIs obj "reversed" ∧ Q obj s₁) called_rt (F.typeCall_reversed_1 _) F.entry_object_init
    (code_reversed_str (A := A.in1) hz ⟨⟨_, Heap.get?_push_size _ rfl, rfl⟩, h⟩) fun obj s₁ h₁ => ?_
  exact ⟨h₁.1, F.args_object_init_2 obj _, object_init_meets called_rt.init.lookup called_rt.made (by decide) prog w A.in1 _ s₁ ⟨h₁.1, rfl, h₁.2⟩⟩

theorem next_rs_item {it : Addr} {x : Str} {t : Tok} {i c : Nat} {Q : Option Value → Shared → Prop} (hit : IsRs s.heap it x t (i : Int)) (hx : x.cps[i]? = some c) (hsz : x.length ≤ sizeLine)
    (hQ : ∀ h' tk, IsRs h' it x t ((i : Int) - 1) → Heap.SameBut it s.heap h' → Q (some (.str ⟨#[c]⟩ (s.toks + 1))) { s with heap := h', toks := tk }) : wpAny (model prog w) A (pyNext (.ref it)) Q E s := by
  obtain ⟨o, ho, hc, hd⟩ := id hit
  have hi : i < x.length := (Array.getElem?_eq_some_iff.mp hx).1
  have hT : s.TypeIs (.str x t) "str" := typeIs_str _ _ _
  have hn := L2.line63
  unfold pyNext
  refine wpAny_bind (wpAny_attempt (wpAny_callSpecial?_slot (name := Str.ofString "__next__") hit.typeIs slot_rt_next
    (wpAny_call_entry slot_rt_next hit.typeIs entry_rt_next ?_ (args_rt_next _))))
  unfold Builtin.«reversed.__next__»
  refine wpAny_bind (wpAny_of_eq (a := (Value.ref it, [])) rfl ?_)
  try dsimp only
  refine wpAny_bind (wpAny_field ho hd (x := .str x t) rfl ?_)
  try dsimp only
  refine wpAny_bind (wpAny_field ho hd (x := rawInt (i : Int)) rfl ?_)
  show wpAny _ _ (if (i : Int) < 0 then _ else _) _ _ s
  rw [if_neg (by omega)]
  try dsimp only
  refine wpAny_bind (wpAny_specialOf hT get_str ?_)
  try dsimp only
  try rw [if_neg (by decide)]
  try dsimp only
  refine wpAny_bind (wpAny_mkInt ?_)
  refine wpAny_bind (wpAny_attempt ?_)
  have fin : seqIndex? (i : Int) x.length = some i := seqIndex_of (by omega) (by omega)
  refine P.getItem_str (s := { s with toks := s.toks + 1 }) (c := c) (by
    have e1 : decide ((i : Int) < -(2 ^ 63 : Int)) = false := decide_eq_false (by omega)
    have e2 : decide ((i : Int) ≥ 2 ^ 63) = false := decide_eq_false (by omega)
    rw [e1, e2, Bool.or_false]) (by rw [fin]; simpa using hx) ?_
  try dsimp only
  refine wpAny_bind (wpAny_field (s := { s with toks := s.toks + 1 + 1 }) ho hd (x := rawInt (i : Int)) rfl ?_)
  try dsimp only
  refine wpAny_bind (wpAny_setField (s := { s with toks := s.toks + 1 + 1 }) ho hd (by simp) ?_)
  first
  | refine wpAny_pure ⟨_, rfl, wpAny_pure (hQ _ _ ?_ (Heap.SameBut.update ..))⟩
  | refine wpAny_bind (wpAny_pure (wpAny_pure ⟨_, rfl, wpAny_pure (hQ _ _ ?_ (Heap.SameBut.update ..))⟩))
  exact ⟨_, Heap.get?_update_self _ ho (Obj.isFreed_of_fields (Obj.data_mapFields hd _)), (Obj.cls_mapFields ..).trans hc, by
    rw [Obj.data_mapFields hd]; simp⟩

theorem next_rs_end {it : Addr} {x : Str} {t : Tok} {Q : Option Value → Shared → Prop} (hh : A.handled = none) (hit : IsRs s.heap it x t (-1))
    (hQ : ∀ h', Heap.ExtBut it s.heap h' → Q none { s with heap := h' }) : wpAny (model prog w) A (pyNext (.ref it)) Q E s := by
  obtain ⟨o, ho, hc, hd⟩ := id hit
  unfold pyNext
  refine wpAny_bind (wpAny_attempt (wpAny_callSpecial?_slot (name := Str.ofString "__next__") hit.typeIs slot_rt_next
    (wpAny_call_entry slot_rt_next hit.typeIs entry_rt_next ?_ (args_rt_next _))))
  unfold Builtin.«reversed.__next__»
  refine wpAny_bind (wpAny_of_eq (a := (Value.ref it, [])) rfl ?_)
  try dsimp only
  refine wpAny_bind (wpAny_field ho hd (x := .str x t) rfl ?_)
  try dsimp only
  refine wpAny_bind (wpAny_field ho hd (x := rawInt (-1)) rfl ?_)
  show wpAny _ _ (if (-1 : Int) < 0 then _ else _) _ _ s
  rw [if_pos (by decide)]
  try dsimp only
  refine wpAny_bind (wpAny_rule ?_)
  refine wpAny_bind ?_
  wp_delta
  refine wpAny_bind (wpAny_setField ho hd (by simp) ?_)
  have ho2 := Heap.get?_update_self (Obj.mapFields (·.setIfInBounds 1 (rawInt (-1)))) ho (Obj.isFreed_of_fields (Obj.data_mapFields hd _))
  refine wpAny_setField (s := { s with heap := s.heap.update it (Obj.mapFields (·.setIfInBounds 1 (rawInt (-1)))) }) ho2 (Obj.data_mapFields hd _) (by simp) ?_
  try dsimp only
  first
  | show wpAny _ _ (newExc (.type "StopIteration") [] >>= _) _ _ _
  | (refine wpAny_bind ?_; show wpAny _ _ (newExc (.type "StopIteration") [] >>= _) _ _ _)
  | (refine wpAny_bind ?_; wp_delta; show wpAny _ _ (newExc (.type "StopIteration") [] >>= _) _ _ _)
  refine wpAny_bind ?_
  simp only [newExc, newTuple]
  refine wpAny_bind (wpAny_newObj_type ?_ (by size_fits))
  refine wpAny_bind (m := firstArgMember _ _) (wpAny_of_eq (a := Value.none) (by first | rfl | (simp only [firstArgMember]; rfl)) ?_)
  refine wpAny_newObj_type ?_ (by size_fits)
  simp only [raiseNew]
  refine wpAny_bind (wpAny_handled ?_)
  first | rw [show A.in1.handled = none from hh] | rw [hh]
  refine wpAny_bind (wpAny_pure (wpAny_throw ?_))
  refine wpAny_bind (wpAny_isInstance (T := "StopIteration") (b := true) ⟨_, Heap.get?_push_size _ rfl, rfl⟩ isSubtype_stop ?_)
  refine wpAny_pure (hQ _ ?_)
  refine ((?_ : Heap.ExtBut it s.heap _).push _).push _
  exact fun b ob hb e => (Heap.get?_update_other _ _ (Ne.symm hb)).trans ((Heap.get?_update_other _ _ (Ne.symm hb)).trans e)

theorem iter_rs {it : Addr} {x : Str} {t : Tok} {i : Int} {Q : Value → Shared → Prop} (hit : IsRs s.heap it x t i) (h : Q (.ref it) s) : wpAny (model prog w) A (pyIter (.ref it)) Q E s := by
  refine wpAny_pyIter_slot hit.typeIs slot_rt_iter (wpAny_call_entry slot_rt_iter hit.typeIs entry_rt_iter ?_ (args_rt_iter _))
  show wpAny _ _ (ret (.ref it)) _ _ s
  exact wpAny_pure ⟨_, rfl, "reversed", _, hit.typeIs, slot_rt_next.lookup, h⟩
end

theorem walks_rs {prog : Program} {w : World} {A : Around} (hh : A.handled = none) (I : Addr) (x : Str) (t : Tok) (hsz : x.length ≤ sizeLine) :
    Walks prog w A I [I] [I] x.length (fun i v => ∃ c tk, x.cps[x.length - 1 - i]? = some c ∧ v = .str ⟨#[c]⟩ tk) (fun i h => i ≤ x.length ∧ IsRs h I x t ((x.length : Int) - 1 - (i : Int))) where
  sub := fun b hb => hb
  frame := fun _ _ _ q hk => ⟨q.1, q.2.at fun o e => hk I (by simp) o e⟩
  item := fun i s Q E hi q hQ => by
    have e : (x.length : Int) - 1 - (i : Int) = ((x.length - 1 - i : Nat) : Int) := by omega
    have hit := q.2
    rw [e] at hit
    have hlt : x.length - 1 - i < x.cps.size := by show x.length - 1 - i < x.length; omega
    have hx : x.cps[x.length - 1 - i]? = some (x.cps[x.length - 1 - i]'hlt) := Array.getElem?_eq_getElem hlt
    refine next_rs_item hit hx hsz fun h' tk hit' hs' => ?_
    have e2 : ((x.length - 1 - i : Nat) : Int) - 1 = (x.length : Int) - 1 - ((i + 1 : Nat) : Int) := by omega
    rw [e2] at hit'
    exact hQ _ h' tk ⟨_, _, hx, rfl⟩ ⟨hi, hit'⟩ fun b o hb eo => hs'.extBut b o (fun h => hb (by simp [h])) eo
  done := fun s Q E q hQ => by
    have e : (x.length : Int) - 1 - (x.length : Int) = -1 := by omega
    have hit := q.2
    rw [e] at hit
    exact next_rs_end hh hit fun h' he' => hQ h' s.toks fun b o hb eo => he' b o (fun h => hb (by simp [h])) eo
  self := fun _ _ _ _ q hQ => iter_rs q.2 hQ

section
variable {prog : Program} {w : World} {A : Around} {E : Value → Shared → Prop} {s : Shared}
/-- its length is asked for, the first time -/
theorem call_hint {it : Addr} {x : Str} {t : Tok} {Q : Value → Shared → Prop} (hit : IsRs s.heap it x t ((x.length : Int) - 1)) (hz : x.length ≤ sizeLine)
    (h : ∀ tk k, s.toks ≤ k → Q (.int x.length tk) { s with toks := k }) : wpAny (model prog w) A (call (.builtin "reversed.__length_hint__") [.ref it]) Q E s := by
  obtain ⟨o, ho, hc, hd⟩ := id hit
  refine wpAny_call_entry slot_hint hit.typeIs entry_hint ?_ (args_hint _)
  unfold Builtin.«reversed.__length_hint__»
  refine wpAny_bind (wpAny_of_eq (a := Value.ref it) rfl ?_)
  try dsimp only
  refine wpAny_bind (wpAny_field ho hd (x := .str x t) rfl ?_)
  try dsimp only
  rw [if_neg (by intro q; cases q)]
  try dsimp only
  refine wpAny_bind (P.len_str (by have := L2.line63; omega) ?_)
  refine wpAny_bind (wpAny_of_eq (a := some ((x.length : Nat) : Int)) rfl ?_)
  try dsimp only
  refine wpAny_bind (wpAny_field (s := { s with toks := s.toks + 1 + 1 }) ho hd (x := rawInt ((x.length : Int) - 1)) rfl ?_)
  try dsimp only
  have e : (x.length : Int) - 1 + 1 = x.length := by omega
  show wpAny _ _ (if (x.length : Int) < (x.length : Int) - 1 + 1 then _ else _) _ _ _
  rw [if_neg (by omega), e]
  refine wpAny_bind (wpAny_mkInt ?_)
  exact wpAny_pure ⟨_, rfl, h _ _ (by show s.toks ≤ s.toks + 1 + 1 + 1; omega)⟩
end
section
variable {prog : Program} {w : World} {A : Around} {E : Value → Shared → Prop} {s : Shared}
theorem collect_rs {I : Addr} {x : Str} {t : Tok} {Q : List Value → Shared → Prop} (hh : A.handled = none) (hz : x.length ≤ sizeLine) (hit : IsRs s.heap I x t ((x.length : Int) - 1))
    (hQ : ∀ s' acc, Moved [I] (fun a b => b = a) s s' → ItemsOf (fun i v => ∃ c tk, x.cps[x.length - 1 - i]? = some c ∧ v = .str ⟨#[c]⟩ tk) acc x.length → Q acc.toList s') : wpAny (model prog w) A (collect (.ref I)) Q E s := by
  have W := (walks_rs (prog := prog) (w := w) (A := A.in1) hh I x t hz).toS
  have hst : 0 ≤ x.length ∧ IsRs s.heap I x t ((x.length : Int) - 1 - ((0 : Nat) : Int)) := ⟨Nat.zero_le _, by rw [show ((x.length : Int) - 1 - ((0 : Nat) : Int)) = (x.length : Int) - 1 by omega]; exact hit⟩
  obtain ⟨oi, hoi, _⟩ := id hit
  have hSI : s.heap.objs.size ≠ I := Nat.ne_of_gt (Heap.lt_size hoi)
  have hSf : s.heap.objs.size ∉ [I] := by simp only [List.mem_singleton]; exact hSI
  unfold collect
  refine wpAny_bind (wpAny_runValue (codeAny_builtin F.entry_proto_collect ?_))
  rw [Around.under_plainId F.plain_proto_collect _]
  show wpAny _ A.in1 (newList [] >>= fun l => again (.builtin "list.__iadd__" ⟨[l, .ref I], []⟩)) _ _ s
  refine wpAny_bind (wpAny_newObj_type ?_)
  refine wpAny_pure ⟨plainId_quiet F.plain_list_iadd _, codeAny_builtin F.entry_list_iadd ?_⟩
  rw [Around.under_plainId F.plain_list_iadd _]
  have hit₁ : IsRs (s.heap.push { cls := .type "list", data := .seq ([] : List Value).toArray }) I x t ((x.length : Int) - 1) := hit.at fun o e => Heap.get?_push_of_some _ e
  have hT : ({ s with heap := s.heap.push { cls := .type "list", data := .seq ([] : List Value).toArray } } : Shared).TypeIs (.ref I) "reversed" := IsRs.typeIs (s := { s with heap := s.heap.push { cls := .type "list", data := .seq ([] : List Value).toArray } }) hit₁
  have hst₁ := W.frame 0 s (s.heap.push { cls := .type "list", data := .seq ([] : List Value).toArray }) s.toks hst (Nat.le_refl _) fun b _ o e => Heap.get?_push_of_some _ e
  show wpAny _ A.in1 (Builtin.List.listExtendWith (.ref s.heap.objs.size) (.ref I) (.ref s.heap.objs.size)) _ _ _
  unfold Builtin.List.listExtendWith
  refine wpAny_bind (wpAny_typeOf hT ?_)
  have h1 : Builtin.List.listSameRef (.ref s.heap.objs.size) (.ref I) = false := by simp [Builtin.List.listSameRef, hSI]
  have h2 : (Value.type "reversed" == Value.type "list") = false := by decide
  have h3 : (Value.type "reversed" == Value.type "tuple") = false := by decide
  simp only [h1, h2, h3, Bool.or_false, Bool.false_eq_true, if_false]
  refine wpAny_bind (W.self 0 _ _ _ hst₁ ?_)
  refine wpAny_bind (wpAny_holding ?_)
  unfold Builtin.List.listLengthHint
  refine wpAny_bind (wpAny_specialOf hT nolen_rev ?_)
  show wpAny _ A.in1 (specialOf (Value.ref I) (Str.ofString "__length_hint__") >>= _) _ _ _
  refine wpAny_bind (wpAny_specialOf hT slot_hint.lookup ?_)
  generalize hid : ("reversed.__length_hint__" : String) = id0
  wp_delta
  rw [show splitId id0 = some ("reversed", "__length_hint__") from by subst hid; decide +kernel]
  subst hid
  refine wpAny_bind (wpAny_isInstance (b := true) hT F.sub_reversed_self ?_)
  simp only [Bool.not_true, Bool.false_eq_true, if_false]
  rw [if_neg (by decide +kernel)]
  refine wpAny_bind (wpAny_rule ?_)
  refine wpAny_bind (wpAny_of_eq (slot_hint.bind _) ?_)
  try dsimp only
  refine wpAny_bind (wpAny_attempt (call_hint (s := { s with heap := s.heap.push { cls := .type "list", data := .seq ([] : List Value).toArray } }) hit₁ hz fun tk k hk => ?_))
  try dsimp only
  have hn63 := L2.line63
  have e0 : ((x.length : Nat) : Int) ≥ 0 := by omega
  have hfi : Builtin.List.listFitsIndex ((x.length : Nat) : Int) = true := by
    unfold Builtin.List.listFitsIndex
    rw [decide_eq_true (by omega), decide_eq_true (by omega)]; rfl
  have hlong : Builtin.List.listTooLong (((x.length : Nat) : Int)).toNat = false := L2.notLongL (by simpa using hz)
  have hm : asInt? (Value.int ((x.length : Nat) : Int) tk) = pure (some ((x.length : Nat) : Int)) := by simp only [asInt?]
  rw [hm]
  rw [pure_bind]
  try dsimp only
  rw [hfi, if_neg (by decide), if_neg (show ¬ ((x.length : Nat) : Int) < 0 by omega), hlong, if_neg (by decide)]
  refine wpAny_pure ?_
  have hS₁ : (s.heap.push { cls := .type "list", data := .seq ([] : List Value).toArray }).get? s.heap.objs.size = some { cls := .type "list", data := .seq ([] : List Value).toArray } := Heap.get?_push_size _ rfl
  have hS0 : ({ s with heap := s.heap.push { cls := .type "list", data := .seq ([] : List Value).toArray }, toks := k } : Shared).heap.get? s.heap.objs.size = some { cls := .type "list", data := .seq ([] : List Value).toArray } := hS₁
  by_cases hz0 : x.length = 0
  · rw [hz0]
    rw [if_neg (by decide +kernel)]
    refine wpAny_pure ⟨plainId_quiet F.plain_extend_loop _, codeAny_extend_loopS W hz _ hSf _ x.length 0 _ _ _ rfl (Nat.zero_le _) ⟨Nat.zero_le _, by rw [show ((x.length : Int) - 1 - ((0 : Nat) : Int)) = (x.length : Int) - 1 by omega]; exact hit₁⟩ hS0 (ItemsOf.nil _) fun s' acc' c' hm hS' hacc => ?_⟩
    show wpAny _ A (load s.heap.objs.size >>= _) _ _ s'
    refine wpAny_bind (wpAny_load hS' ?_)
    refine wpAny_pure (hQ s' acc' ?_ hacc)
    refine ⟨fun b o hb e => ?_, hm.gens, hm.drawn, hm.os, ?_⟩
    · refine hm.heap b o (fun hmem => ?_) (Heap.get?_push_of_some _ e)
      rcases List.mem_cons.mp hmem with e' | hmem
      · exact absurd (Heap.lt_size e) (by rw [e']; exact Nat.lt_irrefl _)
      · exact hb hmem
    · exact Nat.le_trans hk hm.toks
  · rw [if_pos (by
      have : (((x.length : Nat) : Int) != 0) = true := by
        rw [bne_iff_ne]; omega
      rw [this]; rfl)]
    refine wpAny_bind (wpAny_rule ?_)
    refine wpAny_bind ?_
    show wpAny _ A.in1 (updateSeq s.heap.objs.size (·.push .none) >>= fun _ => updateSeq s.heap.objs.size (·.pop)) _ _ _
    refine wpAny_bind (wpAny_updateSeq hS0 rfl ?_ (Nat.zero_le _) (Nat.succ_le_succ (Nat.zero_le _)))
    have hS₂ := Heap.get?_update_self (Obj.mapSeq (·.push Value.none)) hS₁ rfl
    refine wpAny_updateSeq hS₂ rfl ?_ (by show 1 ≤ sizeLine; decide) (Nat.zero_le _)
    have hS₃ := Heap.get?_update_self (Obj.mapSeq (·.pop)) hS₂ rfl
    have oth : ∀ b o, b ≠ s.heap.objs.size → (s.heap.push { cls := .type "list", data := .seq ([] : List Value).toArray }).get? b = some o →
        (((s.heap.push { cls := .type "list", data := .seq ([] : List Value).toArray }).update s.heap.objs.size (Obj.mapSeq (·.push Value.none))).update s.heap.objs.size (Obj.mapSeq (·.pop))).get? b = some o :=
      fun b o hb e => (Heap.get?_update_other _ _ (Ne.symm hb)).trans ((Heap.get?_update_other _ _ (Ne.symm hb)).trans e)
    have hit3 := hit₁.at fun o e => oth I o (Ne.symm hSI) e
    refine wpAny_pure ⟨plainId_quiet F.plain_extend_loop _, codeAny_extend_loopS W hz _ hSf _ x.length 0 _ _ _ rfl (Nat.zero_le _) ⟨Nat.zero_le _, by rw [show ((x.length : Int) - 1 - ((0 : Nat) : Int)) = (x.length : Int) - 1 by omega]; exact hit3⟩ hS₃ (ItemsOf.nil _) fun s' acc' c' hm hS' hacc => ?_⟩
    show wpAny _ A (load s.heap.objs.size >>= _) _ _ s'
    refine wpAny_bind (wpAny_load hS' ?_)
    refine wpAny_pure (hQ s' acc' ?_ hacc)
    refine ⟨fun b o hb e => ?_, hm.gens, hm.drawn, hm.os, ?_⟩
    · have hbs : b ≠ s.heap.objs.size := Nat.ne_of_lt (Heap.lt_size e)
      refine hm.heap b o (fun hmem => ?_) (oth b o hbs (Heap.get?_push_of_some _ e))
      rcases List.mem_cons.mp hmem with e' | hmem
      · exact hbs e'
      · exact hb hmem
    · exact Nat.le_trans hk hm.toks
end

def one (c : Nat) : Str := ⟨#[c]⟩
theorem strs_rs {x : Str} {acc : Array Value} (h : ItemsOf (fun i v => ∃ c tk, x.cps[x.length - 1 - i]? = some c ∧ v = .str ⟨#[c]⟩ tk) acc x.length) : StrsAre acc.toList (x.cps.toList.reverse.map one) := by
  obtain ⟨h1, h2⟩ := h
  have hz : acc.toList.length = (x.cps.toList.reverse.map one).length := by simp [h1, Str.length]
  have key : ∀ (i : Nat) (v : Value), acc.toList[i]? = some v → ∃ (y : Str) (t : Tok), (x.cps.toList.reverse.map one)[i]? = some y ∧ v = .str y t := by
    intro i v hv
    have hv' : acc[i]? = some v := by simpa using hv
    have hi : i < x.length := by
      have h3 := (Array.getElem?_eq_some_iff.mp hv').1
      omega
    obtain ⟨c, tk, hc, rfl⟩ := h2 i v hv'
    refine ⟨⟨#[c]⟩, tk, ?_, rfl⟩
    have hl : x.cps.toList.length = x.length := by simp [Str.length]
    rw [List.getElem?_map, List.getElem?_reverse (by omega), hl, Array.getElem?_toList, hc]
    rfl
  generalize x.cps.toList.reverse.map one = ys at hz key
  generalize acc.toList = L at hz key
  clear h1 h2
  induction L generalizing ys with
  | nil =>
    cases ys with
    | nil => exact .nil
    | cons y r => simp at hz
  | cons v L ih =>
    cases ys with
    | nil => simp at hz
    | cons y ys =>
      obtain ⟨y', t, hy, rfl⟩ := key 0 v rfl
      have ey : y = y' := Option.some.inj hy
      subst ey
      exact .cons y t (ih ys (by simpa using hz) fun i v' hv => key (i + 1) v' (by simpa using hv))
section
variable {prog : Program} {w : World} {A : Around} {E : Value → Shared → Prop} {s : Shared}
theorem join_rs {I : Addr} {x a : Str} {t u : Tok} {Q : Value → Shared → Prop} (hh : A.handled = none) (hz : x.length ≤ sizeLine) (hit : IsRs s.heap I x t ((x.length : Int) - 1))
    (hok : x.length + x.length * a.length ≤ 16777216)
    (hq : ∀ s', Moved [I] (fun a b => b = a) s s' → ∀ t' k, Q (.str (Txt.join a (x.cps.toList.reverse.map one)) t') { s' with toks := k }) :
    wpAny (model prog w) A (call (.builtin "str.join") [.str a u, .ref I]) Q E s := by
  have hT : s.TypeIs (.ref I) "reversed" := hit.typeIs
  have hl : x.cps.toList.length = x.length := by simp [Str.length]
  have hok2 : ((x.cps.toList.reverse.map one).map (·.length)).sum + (x.cps.toList.reverse.map one).length * a.length ≤ 16777216 := by
    have e1 : ((x.cps.toList.reverse.map one).map (·.length)).sum = x.length := by
      rw [List.map_map, show ((fun y : Str => y.length) ∘ one) = fun _ => 1 from rfl]
      rw [List.map_const', List.sum_replicate_nat]
      simp [Str.length]
    rw [e1, List.length_map, List.length_reverse, hl]
    exact hok
  refine wpAny_call (codeAny_call_builtin F.slot_str_join.plain F.entry_str_join (F.slot_str_join.check _ _ _ _ _ _ _ _ (typeIs_str _ _ _) (F.args_str_join_2 _ _) ?_))
  rw [join_tree_other]
  refine wpAny_bind (wpAny_typeOf hT ?_)
  show wpAny _ A.in1 ((pyIter (.ref I)).tryCatch _ >>= fun it => collect it >>= fun items => joinTail a items) _ _ s
  refine wpAny_bind (wpAny_tryCatch (iter_rs hit ?_))
  refine wpAny_bind (collect_rs (A := A.in1) hh hz hit fun s' acc hm hacc => ?_)
  obtain ⟨l, hl2, ht⟩ := strsAre_values (strs_rs hacc)
  rw [hl2]
  rw [← ht] at hok2 hq
  have hok' := joinOk_of hok2
  unfold JoinOk at hok'
  rw [Bool.not_eq_true'] at hok'
  have g : Gives (joinTail a (strValues l)) (joinMade a l) := by
    have g0 := gives_joinTail a l hok'
    cases l with
    | nil => exact g0
    | cons p r => cases r with
      | nil => exact g0
      | cons q r' => exact g0
  exact g prog w A (wants Q E) s' (post_join l ⟨joinFit_length hok', hq s' hm⟩)
end
end RevS
namespace L2
open PySem PySem.Spec PyProof.Rows
/-- sep.join(reversed(text)) -/
def tJoinRev (to te : TE) : TE := fun σ H Q => to σ H fun x H1 => (∃ a, x = .str a) ∧ te σ H1 fun v H2 => ∃ (a z : Str), x = .str a ∧ v = .str z ∧ z.length ≤ sizeLine ∧ z.length + z.length * a.length ≤ 16777216 ∧
  Q (.str (Txt.join a (z.cps.toList.reverse.map RevS.one))) H2
theorem pe_joinRev {X : Cx} {o e : Expr} {to te : TE} {apos pos p pos2 : Pos} (hc : X.calm = true) (ho : PE X o to) (hg : Gl X "reversed") (hm : X.mg "reversed" = none) (he : PE X e te)
    (hs1 : starEach [.Call (.Name "reversed" p) [e] [] pos2] X.env = [(false, eval (.Call (.Name "reversed" p) [e] [] pos2) X.env)] := by rfl)
    (hs : starEach [e] X.env = (false, eval e X.env) :: starEach [] X.env := by rfl)
    (hbase : attributeBase o "join" X.env (eval o X.env) = eval o X.env := by rfl) (hline : (apos.endLine == pos.line) = true := by rfl) :
    PE X (.Call (.Attribute o "join" apos) [.Call (.Name "reversed" p) [e] [] pos2] [] pos) (tJoinRev to te) := by
  refine ⟨fun pins s σ H Q I h => ?_⟩
  refine PySem.Call_method1 hbase hs1 hline (thn (ho.run pins s σ H _ I h) fun v s1 ⟨x, H1, I1, r1, q1⟩ => ?_)
  obtain ⟨⟨a, rfl⟩, q1⟩ := q1
  obtain ⟨t, rfl⟩ := _root_.id r1
  refine ⟨"str", _, F.plainAttrs_str, F.slot_str_join, F.type_str_join, typeIs_str _ _ _, (fun _ e => nomatch e), Calls.callWith_builtin rfl (Calls.evalArgs_plain (Calls.spliced_cons ?_))⟩
  refine Call_ (ld_blt I1 hg hm PyProof.Rows.boot_reversed (PyProof.Rows.callWith_type1 (args_cons (thn (he.run pins s1 σ H1 _ I1 q1) fun u s2 ⟨v, H2, I2, r2, q2⟩ => args_nil ?_) hs) hs rfl))
  obtain ⟨a', z, ea, ev, hz, hk, q⟩ := q2
  cases ea
  subst ev
  obtain ⟨t2, rfl⟩ := _root_.id r2
  refine RevS.call_reversed_str hz (Calls.spliced_nil ?_)
  have hit : RevS.IsRs (s2.heap.push (RevS.rsObj z t2 ((z.length : Int) - 1))) s2.heap.objs.size z t2 ((z.length : Int) - 1) := ⟨_, Heap.get?_push_size _ rfl, rfl, rfl⟩
  refine RevS.join_rs (s := { s2 with heap := s2.heap.push (RevS.rsObj z t2 ((z.length : Int) - 1)), toks := s2.toks + 1 + 1 }) (I2.ok.hd hc) hz hit hk fun s' hm' t' k => ?_
  have kp : ∀ b o, s2.heap.get? b = some o → s'.heap.get? b = some o := fun b o e => hm'.heap b o (by
    simp only [List.mem_singleton]
    exact Nat.ne_of_lt (Heap.lt_size e)) (Heap.get?_push_of_some _ e)
  rw [Moved.eq_with hm']
  exact ⟨.str _, H2, I2.kept (t' := k) kp, ⟨t', rfl⟩, q⟩
end L2

/-! for i, c in enumerate(text) -/
namespace EnumS
open PySem PySem.Spec PyProof.Rows L2
/-- a text's signs with their numbers, each in a new pair -/
def IteS (x : Str) : It :=
  ⟨fun i _ => i < x.cps.size, fun i H v H' => ∃ T c, v = .ref T ∧ H T = none ∧ H' = upd H T (.tup [.int (i : Nat), .str ⟨#[c]⟩]) ∧ x.cps[i]? = some c, fun i _ => x.cps.size = i⟩
theorem draws_str {prog : Program} {w : World} {A : Around} (hh : A.handled = none) (it : Addr) (x : Str) (t : Tok) : Draws prog w A it [it] x.cps.size (SignAt x) (fun i h => h.IsStrIter it (strIterType x) x t i) := by
  unfold strIterType
  split
  · exact Draws.strAscii hh it x t
  · exact Draws.strWide hh it x t
theorem turn_enumS {P : Program} {w : World} {K : PySem.W.Frag} {elts : List Expr} {kk : Nat} {tpos : Pos} (x : Str) (t : Tok) (e it : Addr) :
    Turn P w K (.Tuple elts kk tpos) (IteS x) [e, it] e (fun i h => (∃ old, IsEnum h e it ((i : Nat) : Int) old) ∧ h.IsStrIter it (strIterType x) x t i ∧ e ≠ it) where
  mem := by simp
  obj := fun i h st b hb => by
    obtain ⟨⟨old, he⟩, ⟨o, ho, hc, hd⟩, _⟩ := st
    have e' : b = e ∨ b = it := by simpa using hb
    rcases e' with z | z
    · rw [z]; exact ⟨_, he, fun v q => nomatch q⟩
    · rw [z]; exact ⟨o, ho, fun v q => by rw [hd] at q; cases q⟩
  keep := fun i h h' st k => let ⟨⟨old, he⟩, ⟨o, ho, r⟩, hne⟩ := st; ⟨⟨old, k e (by simp) _ he⟩, ⟨o, k it (by simp) o ho, r⟩, hne⟩
  item := by
    intro X hP hw hK hc i pins s σ H E I hf st hg
    subst hP hw hK
    obtain ⟨⟨old, he⟩, hit, hne⟩ := st
    have hel : e < s.heap.objs.size := Heap.lt_size he
    have hil : it < s.heap.objs.size := by obtain ⟨_, q, _⟩ := hit; exact Heap.lt_size q
    refine wpAny_pyNext_enum_itemD (draws_str (A := X.A.in1) (show X.A.handled = none from I.ok.hd hc) it x t) he hit hg hne (by simpa using hne) fun v h' tk hPv ho hit' hT hsz hk => ?_
    obtain ⟨c, u, hcx, rfl⟩ := hPv
    refine ⟨_, rfl, wpAny_letOwnedTupleGo_enum (s := { s with heap := h', toks := tk + 1 }) ho fun h'' he' sb => ?_⟩
    have hT2 : h''.get? s.heap.objs.size = some { cls := .type "tuple", data := .seq #[.int i tk, .str ⟨#[c]⟩ u] } := (sb.2 _ (Nat.ne_of_gt hel)).trans hT
    have new : ObjOk X.prog X.w (upd H s.heap.objs.size (.tup [.int (i : Nat), .str ⟨#[c]⟩])) h'' s.heap.objs.size (.tup [.int (i : Nat), .str ⟨#[c]⟩]) :=
      ⟨by show 2 ≤ sizeLine; decide, [.int i tk, .str ⟨#[c]⟩ u], .cons ⟨_, rfl⟩ (.cons ⟨_, rfl⟩ .nil), ⟨_, hT2, rfl, _, rfl⟩⟩
    have I1 : Inv X pins σ (upd H s.heap.objs.size (.tup [.int (i : Nat), .str ⟨#[c]⟩])) { s with heap := h'', toks := tk + 1 } :=
      I.turnedNew (ch := [e, it]) (fun b ob hb q => (sb.2 b (fun z => hb (by simp [z]))).trans (hk b ob (fun z => hb (by simp [z])) (fun z => hb (by simp [z])) q)) hf (Nat.le_refl _) new
    refine ⟨.ref s.heap.objs.size, _, I1, rfl, ⟨_, c, rfl, I.hok.fresh (Nat.le_refl _), rfl, hcx⟩, ⟨⟨.str ⟨#[c]⟩ u, ?_⟩, ?_, hne⟩, fun b hb => ?_⟩
    · have e1 : ((i + 1 : Nat) : Int) = (i : Int) + 1 := by omega
      rw [e1]; exact he'
    · obtain ⟨o, ho', r⟩ := hit'
      exact ⟨o, (sb.2 it (Ne.symm hne)).trans ho', r⟩
    · have hb' : b < s.heap.objs.size := by
        have e' : b = e ∨ b = it := by simpa using hb
        rcases e' with z | z
        · rw [z]; exact hel
        · rw [z]; exact hil
      rw [upd_ne (Nat.ne_of_lt hb')]
      exact (hf b hb).1
  done := by
    intro X hP hw hK hc i pins s σ H E I hf st hg
    subst hP hw hK
    obtain ⟨⟨old, he⟩, hit, hne⟩ := st
    have hg' : x.cps.size = i := hg
    subst hg'
    obtain ⟨f0, f1, f2, f3, f4, f5⟩ := hf it (by simp)
    exact wpAny_pyNext_enum_endD (draws_str (A := X.A.in1) (show X.A.handled = none from I.ok.hd hc) it x t) he hit fun h' eb => ⟨rfl, I.turned (t' := s.toks) (fun b o hb q => eb b o hb q) f0 f1 f3 f4 f5⟩
  self := fun A i s Q E st h => let ⟨⟨_, he⟩, _⟩ := st; wpAny_pyIter_enum he h
def iEnumS (ta : TA) : TI := fun σ H R => ta σ H fun vs H1 => ∃ x, vs = [.str x] ∧ R (IteS x) H1
theorem pi_enumS {X : Cx} {e : Expr} {ta : TA} {p pos tpos : Pos} {elts : List Expr} {kk : Nat} (hg : Gl X "enumerate") (hm : X.mg "enumerate" = none) (ha : PA X [e] ta) (hs : starEach [e] X.env = [(false, eval e X.env)] := by rfl) :
    PI X (.Tuple elts kk tpos) (.Call (.Name "enumerate" p) [e] [] pos) (iEnumS ta) := by
  refine ⟨fun pins s σ H R I h => ?_⟩
  refine Call_ (ld_blt I hg hm boot_enumerate (PyProof.Rows.callWith_type1 (thn (ha.run pos pins s σ H _ I h) fun us s1 ⟨vs, H1, I1, r1, q1⟩ => ?_) hs rfl))
  obtain ⟨x, ex, q⟩ := q1
  subst ex
  cases r1 with
  | cons r rr =>
    cases rr
    obtain ⟨t, rfl⟩ := r
    refine call_enumerate_str fun h' he hit hsz hk => wpAny_pyIter_enum he ?_
    have I2 : Inv X pins σ H1 { s1 with heap := h' } := I1.kept (t' := s1.toks) hk
    refine ⟨s1.heap.objs.size + 1, [s1.heap.objs.size + 1, s1.heap.objs.size], _, _, H1, rfl, I2, turn_enumS x t (s1.heap.objs.size + 1) s1.heap.objs.size, ⟨⟨.none, he⟩, hit, Nat.succ_ne_self _⟩, fun b hb => ?_, q⟩
    have e' : b = s1.heap.objs.size + 1 ∨ b = s1.heap.objs.size := by simpa using hb
    have hle : s1.heap.objs.size ≤ b := by
      rcases e' with z | z
      · rw [z]; exact Nat.le_add_right _ _
      · rw [z]; exact Nat.le_refl _
    exact I1.fpOk hle (I1.hok.fresh hle)
end EnumS

/-! set(text), and how many unlike signs a text has -/
namespace SetS
open PySem PySem.Spec PyProof.Rows
/-- how many unlike ones stand among the first -/
def cnt (xs : List Str) : Nat → Nat
  | 0 => 0
  | i + 1 => if (xs.take i).any (· == xs.getD i Str.empty) = true then cnt xs i else cnt xs i + 1
theorem cnt_le (xs : List Str) : ∀ i, cnt xs i ≤ i
  | 0 => Nat.le_refl _
  | i + 1 => by
    have := cnt_le xs i
    unfold cnt
    split <;> omega
abbrev nude (b : Bool) : Obj := ⟨.type "set", none, .set #[] 0 (.fresh 0 0 b), #[]⟩
section
variable {prog : Program} {w : World} {A : Around} {E : Value → Shared → Prop}
def Told (g : Program) (w : World) (a : Addr) (xs : List Str) (i : Nat) (h : Heap) : Prop := h.SetOf (strKind g w) a (fun z => (xs.take i).any (· == z)) (cnt xs i)
theorem Told.keep {a : Addr} {xs : List Str} {i : Nat} {h h' : Heap} (T : Told prog w a xs i h) (k : ∀ o, h.get? a = some o → h'.get? a = some o) : Told prog w a xs i h' := by
  obtain ⟨o, es, ep, tb, at', more⟩ := T
  exact ⟨o, es, ep, tb, k o at', more⟩
theorem told_next {a : Addr} {xs : List Str} {i : Nat} {h : Heap} (hi : i < xs.length)
    (T : h.SetOf (strKind prog w) a (fun z => (xs.take i).any (· == z) || decide (z = xs.getD i Str.empty)) (if (xs.take i).any (· == xs.getD i Str.empty) = true then cnt xs i else cnt xs i + 1)) : Told prog w a xs (i + 1) h := by
  refine SetOf_congr T (fun z => ?_) rfl
  have e : xs.take (i + 1) = xs.take i ++ [xs.getD i Str.empty] := by
    rw [List.take_succ, List.getElem?_eq_getElem hi, List.getD_eq_getElem?_getD, List.getElem?_eq_getElem hi]
    rfl
  rw [e, List.any_append]
  congr 1
  by_cases q : z = xs.getD i Str.empty
  · rw [decide_eq_true q, q]; simp
  · rw [decide_eq_false q]
    have : (xs.getD i Str.empty == z) = false := beq_eq_false_iff_ne.mpr fun z' => q z'.symm
    rw [List.any_cons, this]
    rfl
/-- a text told to a set -/
theorem add_str {a : Addr} {xs : List Str} {i : Nat} {u : Tok} {s : Shared} {Q : Bool → Shared → Prop} (hi : i < xs.length) (room : i + 1 < scanBound) (T : Told prog w a xs i s.heap)
    (q : ∀ h' b, Heap.SameBut a s.heap h' → Told prog w a xs (i + 1) h' → Q b ⟨h', s.gens, s.drawn, s.toks + 1, s.os⟩) : wpAny (model prog w) A (setAdd a (.str (xs.getD i Str.empty) u)) Q E s := by
  have fits := Nat.lt_of_le_of_lt (Nat.succ_le_succ (cnt_le xs i)) room
  unfold setAdd
  refine wpAny_holding (wpAny_bind ((strKind prog w).pyHash (strKind_is _ _ _ u) ?_))
  exact wpAny_setAddHashed_of (s := { s with toks := s.toks + 1 }) (strKind_is _ _ _ _) rfl T fits fun h' same T2 => q h' _ same (told_next hi T2)
/-- the loop that tells all of them -/
theorem fill {R : Result → Shared → Prop} {it a : Addr} {fp wr : List Addr} {G : Array GenState → Array GenState → Prop} {P : Nat → Value → Prop} {St : Nat → Shared → Prop} (xs : List Str)
    (W : WalksS prog w A.in1 it fp wr G xs.length P St) (ha : a ∉ fp) (room : xs.length < scanBound) (each : ∀ i v, P i v → ∃ u, v = .str (xs.getD i Str.empty) u) :
    ∀ (j i : Nat) (s : Shared), i + j = xs.length → St i s → Told prog w a xs i s.heap → (∀ z, Moved (a :: wr) G s z → Told prog w a xs xs.length z.heap → R (.ok (.ret .none)) z) →
      codeAny (model prog w) A (.builtin "set.update.loop" ⟨[.ref a, .ref it], []⟩) R s := by
  have out : a ∉ wr := fun z => ha (W.sub a z)
  have more : ∀ {s z : Shared}, Moved wr G s z → Moved (a :: wr) G s z := fun m => m.mono fun b hb => .tail _ hb
  intro j
  induction j with
  | zero =>
    intro i s e st T fin
    obtain rfl : i = xs.length := by omega
    refine codeAny_builtin F.entry_set_update_loop ?_
    rw [Around.under_plainId F.plain_set_update_loop _]
    refine wpAny_bind (f := fun x => _) (W.done s _ _ st fun z m => ?_)
    exact wpAny_pure (M := model prog w) (A := A.in1) (fin z (more m) (T.keep fun o h => m.heap a o out h))
  | succ j ih =>
    intro i s e st T fin
    have lt : i < xs.length := by omega
    refine codeAny_builtin F.entry_set_update_loop ?_
    rw [Around.under_plainId F.plain_set_update_loop _]
    refine wpAny_bind (f := fun x => _) (W.item i s _ _ lt st fun v z hv st' m => ?_)
    obtain ⟨u, rfl⟩ := each i v hv
    refine wpAny_bind (f := fun x => _) (wpAny_holding (add_str lt (by omega) (T.keep fun o h => m.heap a o out h) fun h' b same T' => ?_))
    refine wpAny_pure (M := model prog w) (A := A.in1) ⟨plainId_quiet F.plain_set_update_loop _, ih (i + 1) _ (by omega) (W.frame _ z _ _ st' (Nat.le_succ _) fun b hb o h => (same.2 b fun q => ha (q ▸ hb)).trans h) T' fun z' m' T2 => fin z' ?_ T2⟩
    exact ((more m).then_heap (Nat.le_succ _) fun b o hb h => (same.2 b fun q => hb (q ▸ List.mem_cons_self ..)).trans h).trans W.gtrans m'
end
section
variable {prog : Program} {w : World} {A : Around} {E : Value → Shared → Prop} {s : Shared}
theorem not_a_set (n : String) {Q : Bool → Shared → Prop} (h : isSubtype (.type n) (.type "set") = pure false) (q : Q false s) : wpAny (model prog w) A (isSubtype (.type n) (.type "set")) Q E s := by
  rw [h]
  exact wpAny_pure q
set_option maxHeartbeats 3200000 in
/-- set(text) -/
theorem make {x : Str} {t : Tok} {Q : Value → Shared → Prop} (led0 : A.handled = none) (room : x.length < scanBound)
    (q : ∀ (h' : Heap) (tk : Nat), Told prog w s.heap.objs.size (signs x) (signs x).length h' → (∀ b o, s.heap.get? b = some o → h'.get? b = some o) → Q (.ref s.heap.objs.size) { s with heap := h', toks := tk }) :
    wpAny (model prog w) A (call (.type "set") [.str x t]) Q E s := by
  obtain ⟨c0, rest, mro⟩ := PySem.F.called_set.mro
  have c1 := PySem.F.called_set.made
  have c2 := PySem.F.called_set.sub
  have c3 := PySem.F.called_set.notType
  have c4 := PySem.F.called_set.canCreate
  have c5 := PySem.F.typeCall_set_1 (.str x t)
  refine wpAny_call (codeAny_of_tree ?_)
  show wpAny _ _ (callAny (.type "set") _) _ _ _
  refine wpAny_pure ⟨Code.quiet_builtin _ (by decide +kernel), codeAny_builtin PySem.F.entry_type_call ?_⟩
  rw [Around.under_plain (weight_type_call_type "set" [.str x t] []) rfl]
  repeat (any_goals (first | assumption | wp_step))
  refine codeAny_mono (code_set_new_1 (.str x t) (E := E) (Q₁ := fun v z => ∃ b, v = .ref s.heap.objs.size ∧ z = { s with heap := s.heap.push (nude b) }) fun b => ⟨b, rfl, rfl⟩) fun r z hr => ?_
  cases r with
  | error e => exact hr
  | ok fl =>
    cases fl with
    | ret v =>
      obtain ⟨b, rfl, rfl⟩ := hr
      have here : (s.heap.push (nude b)).get? s.heap.objs.size = some (nude b) := Heap.get?_push_size _ rfl
      have kind : Shared.TypeIs { s with heap := s.heap.push (nude b) } (.ref s.heap.objs.size) "set" := ⟨_, here, rfl⟩
      have c6 := PySem.F.called_set.init.lookup
      have c7 := PySem.F.called_set.init.bind (.ref s.heap.objs.size)
      repeat (any_goals (first | assumption | wp_step))
      refine codeAny_mono (codeAny_call_builtin (R := wants (fun r z => r = .none ∧ ∃ h' tk, z = { s with heap := h', toks := tk } ∧ Told prog w s.heap.objs.size (signs x) (signs x).length h' ∧ (∀ b o, s.heap.get? b = some o → h'.get? b = some o)) E)
        PySem.F.called_set.init.plain PySem.F.entry_set_init (check_set_init_1 kind ?_)) fun r z hr => ?_
      · have n1 := PySem.F.sub_str_set
        have n2 := PySem.F.sub_str_frozenset
        have n3 : (Value.type "str" == Value.type "dict") = false := by decide
        unfold Builtin.«set.__init__» noKeywords Builtin.Frozenset.updateFrom
        generalize hI : pyIter = I
        wp_walk
        subst hI
        refine wpAny_pyIter_str fun o St W st => ?_
        refine wpAny_bind (wpAny_runValue ?_)
        have led3 : A.in1.in1.in1.handled = none := by simp [led0]
        have here2 := Heap.get?_push_of_some o here
        have ln : (signs x).length = x.cps.size := signs_length x
        have sz : (s.heap.push (nude b)).objs.size = s.heap.objs.size + 1 := Heap.size_push ..
        have apart : s.heap.objs.size ∉ [(s.heap.push (nude b)).objs.size] := fun hb => by
          have hb := List.mem_singleton.mp hb
          rw [sz] at hb
          omega
        have each : ∀ i v, SignAt x i v → ∃ u, v = .str ((signs x).getD i Str.empty) u := fun i v ⟨c, u, hc, ev⟩ => ⟨u, by rw [ev, List.getD_eq_getElem?_getD, signs_get hc]; rfl⟩
        have none' : Told prog w s.heap.objs.size (signs x) 0 ((s.heap.push (nude b)).push o) := SetOf_congr ((setObjOf_fresh (knd := strKind prog w) b).setOf here2 (by unfold scanBound; omega)) (fun _ => rfl) rfl
        refine fill (signs x) (ln ▸ (W _ led3).toS) apart (by rw [ln]; exact room) each _ 0 _ (Nat.zero_add _) st none' fun z m T => ?_
        obtain ⟨h', g', d', tk', os'⟩ := z
        obtain rfl : g' = s.gens := m.gens
        obtain rfl : d' = s.drawn := m.drawn
        obtain rfl : os' = s.os := m.os
        refine wpAny_pure (M := model prog w) ?_
        refine wpAny_pure (M := model prog w) ⟨rfl, h', tk', rfl, T, fun b' o' e => m.heap b' o' ?_ (Heap.get?_push_of_some _ (Heap.get?_push_of_some _ e))⟩
        have lt := Heap.lt_size e
        rw [sz]
        simp only [List.mem_cons, List.not_mem_nil, or_false, not_or]
        exact ⟨Nat.ne_of_lt lt, Nat.ne_of_lt (Nat.lt_succ_of_lt lt)⟩
      · cases r with
        | error e => exact hr
        | ok fl =>
          cases fl with
          | ret v =>
            obtain ⟨rfl, h', tk, rfl, T, keep⟩ := hr
            repeat (any_goals (first | assumption | wp_step))
            exact q _ _ T keep
          | _ => exact hr.elim
    | _ => exact hr.elim
end
end SetS
namespace L2
open PySem PySem.Spec PyProof.Rows
/-- len(set(e)), e a text -/
def tLenSetS (ta : TE) : TE := fun σ H Q => ta σ H fun v H1 => ∃ x : Str, v = .str x ∧ x.length < scanBound ∧ Q (.int (SetS.cnt (signs x) (signs x).length : Nat)) H1
section
variable {X : Cx}
theorem pe_lenSetS {a : Expr} {ta : TE} {p p2 q pos : Pos} (calm : X.calm = true) (g1 : Gl X "len") (m1 : X.mg "len" = none) (g2 : Gl X "set") (m2 : X.mg "set" = none) (ha : PE X a ta)
    (st : starEach [a] X.env = (false, eval a X.env) :: starEach [] X.env := by rfl) : PE X (.Call (.Name "len" p) [.Call (.Name "set" p2) [a] [] q] [] pos) (tLenSetS ta) := by
  refine ⟨fun pins s σ H Q I h => Call_ (ld_blt I g1 m1 boot_len (callWith_builtin1 (args_cons ?_ rfl) rfl rfl))⟩
  refine Call_ (ld_blt I g2 m2 boot_set (callWith_type1 (args_cons (thn (ha.run pins s σ H _ I h) fun v z ⟨y, H1, I1, r1, x, ex, room, q1⟩ => args_nil ?_) st) st rfl))
  subst ex
  obtain ⟨t, rfl⟩ := r1
  refine SetS.make (I1.ok.hd calm) room fun h' tk T keep => args_nil ?_
  obtain ⟨o, es, ep, tb, at', exact', data, _, _, _, fit, many⟩ := T
  have small : SetS.cnt (signs x) (signs x).length < scanBound := Nat.lt_of_le_of_lt (SetS.cnt_le _ _) (by rw [signs_length]; exact room)
  have I2 : Inv X pins σ H1 { z with heap := h', toks := tk } := I1.kept keep
  exact call_len_set at' exact' data fit (by rw [many]; unfold scanBound at small; omega) ⟨.int (SetS.cnt (signs x) (signs x).length : Nat), H1, I2.tok _, ⟨_, by rw [many]⟩, q1⟩
end
end L2

/-! Tw: typed judgements over HandS: values as Lean data in a frozen heap F inside the heap H. -/
namespace Tw
open PySem PySem.Spec PyProof.Rows L2 TL

/-! ### typed data in a heap -/
class Rep (α : Type) where
  rp : PySem.W.Frag → Hp → V → α → Prop
  mono : ∀ {K : PySem.W.Frag} {F F' : Hp} {v : V} {x : α}, Same F F' → rp K F v x → rp K F' v x
abbrev rp {α : Type} {i : Rep α} (K : PySem.W.Frag) (F : Hp) (v : V) (x : α) : Prop := i.rp K F v x
abbrev Tx := List Nat
def sx (x : Tx) : Str := ⟨x.toArray⟩
theorem tl_sx (x : Tx) : tl (sx x) = x := rfl
theorem sx_tl (x : Str) : sx (tl x) = x := mk_tl x
theorem sx_inj {x y : Tx} (h : sx x = sx y) : x = y := by have := congrArg tl h; simpa [tl_sx] using this
theorem sx_len (x : Tx) : (sx x).length = x.length := by rw [len_tl]; rfl
theorem sx_app (x y : Tx) : sx x ++ sx y = sx (x ++ y) := ext_tl (by rw [tl_append]; rfl)
instance repInt : Rep Int := ⟨fun _ _ v x => v = .int x, fun _ h => h⟩
instance repBool : Rep Bool := ⟨fun _ _ v x => v = .bl x, fun _ h => h⟩
instance repUnit : Rep Unit := ⟨fun _ _ v _ => v = .non, fun _ h => h⟩
instance repTx : Rep (List Nat) := ⟨fun _ _ v x => v = .str (sx x), fun _ h => h⟩
instance repList {α : Type} [i : Rep α] : Rep (List α) := ⟨fun K H v xs => ∃ a vs, v = .ref a ∧ H a = some (.lst vs) ∧ Paired (fun u x => i.rp K H u x) vs xs,
  fun s ⟨a, vs, e, h, p⟩ => ⟨a, vs, e, s _ _ h, Paired.mapP p fun _ _ q => i.mono s q⟩⟩
/-- a tuple of like things -/
structure Tup (α : Type) where
  l : List α
instance repTup {α : Type} [i : Rep α] : Rep (Tup α) := ⟨fun K H v xs => ∃ a vs, v = .ref a ∧ H a = some (.tup vs) ∧ Paired (fun u x => i.rp K H u x) vs xs.l,
  fun s ⟨a, vs, e, h, p⟩ => ⟨a, vs, e, s _ _ h, Paired.mapP p fun _ _ q => i.mono s q⟩⟩
instance repPair {α β : Type} [i : Rep α] [j : Rep β] : Rep (α × β) := ⟨fun K H v x => ∃ a u w, v = .ref a ∧ H a = some (.tup [u, w]) ∧ i.rp K H u x.1 ∧ j.rp K H w x.2,
  fun s ⟨a, u, w, e, h, p, q⟩ => ⟨a, u, w, e, s _ _ h, i.mono s p, j.mono s q⟩⟩
instance repOpt {α : Type} [i : Rep α] : Rep (Option α) := ⟨fun K H v x => match x with | none => v = .non | some y => i.rp K H v y,
  fun {K F F' v x} s h => by cases x with | none => exact h | some y => exact i.mono s h⟩
/-- the script -/
structure Scr where
  l : List Int
instance repScr : Rep Scr := ⟨fun K H v x => ∃ a, v = .ref a ∧ SqL K H a (x.l.map V.int), fun s ⟨a, e, h⟩ => ⟨a, e, s.seq h⟩⟩

abbrev Rps {α : Type} [i : Rep α] (K : PySem.W.Frag) (F : Hp) (vs : List V) (xs : List α) : Prop := Paired (fun u x => i.rp K F u x) vs xs
section
variable {α β : Type} [i : Rep α] [j : Rep β] {K : PySem.W.Frag} {F F' : Hp} {vs : List V} {xs : List α}
theorem Rps.mono (s : Same F F') (h : Rps K F vs xs) : Rps K F' vs xs := Paired.mapP h fun _ _ q => i.mono s q
theorem Rps.len (h : Rps K F vs xs) : vs.length = xs.length := Paired.length h
theorem pgetL {A B : Type} {G : A → B → Prop} : ∀ {l : List A} {m : List B} {k : Nat} {b : B}, Paired G l m → m[k]? = some b → ∃ a, l[k]? = some a ∧ G a b
  | _, _, 0, _, .cons r _, e => by simp at e; subst e; exact ⟨_, rfl, r⟩
  | _, _, k + 1, b, .cons _ t, e => by
    obtain ⟨a, h1, h2⟩ := pgetL (k := k) (b := b) t (by simpa using e)
    exact ⟨a, by simpa using h1, h2⟩
theorem pgetR {A B : Type} {G : A → B → Prop} {l : List A} {m : List B} {k : Nat} {a : A} (h : Paired G l m) (e : l[k]? = some a) : ∃ b, m[k]? = some b ∧ G a b := paired_get h e
theorem ptake {A B : Type} {G : A → B → Prop} : ∀ {l : List A} {m : List B} (n : Nat), Paired G l m → Paired G (l.take n) (m.take n)
  | _, _, 0, _ => .nil
  | _, _, _ + 1, .nil => .nil
  | _, _, n + 1, .cons r t => .cons r (ptake n t)
theorem pdrop {A B : Type} {G : A → B → Prop} : ∀ {l : List A} {m : List B} (n : Nat), Paired G l m → Paired G (l.drop n) (m.drop n)
  | _, _, 0, r => r
  | _, _, _ + 1, .nil => .nil
  | _, _, n + 1, .cons _ t => pdrop n t
theorem papp {A B : Type} {G : A → B → Prop} : ∀ {l l' : List A} {m m' : List B}, Paired G l m → Paired G l' m' → Paired G (l ++ l') (m ++ m')
  | _, _, _, _, .nil, s => s
  | _, _, _, _, .cons r t, s => .cons r (papp t s)
theorem prev {A B : Type} {G : A → B → Prop} : ∀ {l : List A} {m : List B}, Paired G l m → Paired G l.reverse m.reverse
  | _, _, .nil => .nil
  | _, _, .cons r t => by
    rw [List.reverse_cons, List.reverse_cons]
    exact papp (prev t) (.cons r .nil)
theorem pset {A B : Type} {G : A → B → Prop} {a : A} {b : B} (g : G a b) : ∀ {l : List A} {m : List B} (n : Nat), Paired G l m → Paired G (l.set n a) (m.set n b)
  | _, _, _, .nil => .nil
  | _, _, 0, .cons _ t => .cons g t
  | _, _, n + 1, .cons r t => .cons r (pset g n t)
theorem Rps.ints {ns : List Int} : ∀ {vs : List V}, Paired (fun u x => repInt.rp K F u x) vs ns → vs = ns.map V.int := by
  induction ns with
  | nil => intro vs h; cases h; rfl
  | cons n ns ih =>
    intro vs h
    cases h with
    | cons r t =>
      obtain rfl : _ = V.int n := r
      rw [ih t]
      rfl
theorem Rps.bls {ns : List Bool} : ∀ {vs : List V}, Paired (fun u x => repBool.rp K F u x) vs ns → vs = ns.map V.bl := by
  induction ns with
  | nil => intro vs h; cases h; rfl
  | cons n ns ih =>
    intro vs h
    cases h with
    | cons r t =>
      obtain rfl : _ = V.bl n := r
      rw [ih t]
      rfl
theorem Rps.strs {ns : List Tx} : ∀ {vs : List V}, Paired (fun u x => repTx.rp K F u x) vs ns → vs = (ns.map sx).map V.str := by
  induction ns with
  | nil => intro vs h; cases h; rfl
  | cons n ns ih =>
    intro vs h
    cases h with
    | cons r t =>
      obtain rfl : _ = V.str (sx n) := r
      rw [ih t]
      rfl
theorem Rps.of_ints : ∀ (ns : List Int), Rps K F (ns.map V.int) ns
  | [] => .nil
  | n :: ns => .cons rfl (Rps.of_ints ns)
theorem Rps.of_strs : ∀ (ns : List Tx), Rps K F ((ns.map sx).map V.str) ns
  | [] => .nil
  | n :: ns => .cons rfl (Rps.of_strs ns)
end

/-! ### the heaps' steps -/
structure ExtM (M : Addr → Prop) (F H F' H' : Hp) : Prop where
  ff : Same F F'
  fh : Same F' H'
  hh : ∀ b o, ¬ M b → H b = some o → H' b = some o
  nwM : ∀ a, ¬ M a → F a = none → H a ≠ none → F' a = none
  th : ∀ a, M a → H a ≠ none → H' a ≠ none
abbrev M0 : Addr → Prop := fun _ => False
abbrev Ext := ExtM M0
theorem Ext.hs {F H F' H' : Hp} (e : Ext F H F' H') : Same H H' := fun b o h => e.hh b o (fun z => z) h
theorem Ext.refl {F H : Hp} (h : Same F H) : Ext F H F H := ⟨Same.refl F, h, fun _ _ _ h => h, fun _ _ h _ => h, fun _ z => z.elim⟩
theorem ExtM.nw {F H F' H' : Hp} (e : Ext F H F' H') (a : Addr) (h1 : F a = none) (h2 : H a ≠ none) : F' a = none := e.nwM a (fun z => z) h1 h2
theorem ExtM.trans {M : Addr → Prop} {F H F1 H1 F2 H2 : Hp} (a : ExtM M F H F1 H1) (b : Ext F1 H1 F2 H2) : ExtM M F H F2 H2 :=
  have keep : ∀ x, H1 x ≠ none → H2 x ≠ none := fun x h z => by
    cases q : H1 x with
    | none => exact h q
    | some o => rw [b.hs _ _ q] at z; cases z
  ⟨a.ff.trans b.ff, b.fh, fun x o hx h => b.hs _ _ (a.hh x o hx h), fun x hx h1 h2 => b.nw x (a.nwM x hx h1 h2) (by
    intro z
    cases q : H x with
    | none => exact h2 q
    | some o => rw [a.hh x o hx q] at z; cases z), fun x hx h => keep x (a.th x hx h)⟩
theorem Ext.trans {F H F1 H1 F2 H2 : Hp} (a : Ext F H F1 H1) (b : Ext F1 H1 F2 H2) : Ext F H F2 H2 := ExtM.trans a b
/-- a new frozen thing -/
theorem Ext.new {F H : Hp} (h : Same F H) {p : Addr} {o : HO} (hp : H p = none) : Ext F H (upd F p o) (upd H p o) := by
  have fp : F p = none := h.free hp
  refine ⟨fun b u e => ?_, fun b u e => ?_, fun b u _ e => ?_, fun b _ e ne => ?_, fun _ z => z.elim⟩
  · rw [upd_ne (ne_of_none e fp)]; exact e
  · by_cases hb : b = p
    · subst hb; rw [upd_same] at e ⊢; exact e
    · rw [upd_ne hb] at e ⊢; exact h _ _ e
  · rw [upd_ne (ne_of_none e hp)]; exact e
  · rw [upd_ne (fun z => by subst z; exact ne hp)]; exact e
/-- a new thing that is kept apart -/
theorem Ext.apart {F H : Hp} (h : Same F H) {p : Addr} {o : HO} (hp : H p = none) : Ext F H F (upd H p o) :=
  ⟨Same.refl F, fun b u e => by rw [upd_ne (ne_of_none (h _ _ e) hp)]; exact h _ _ e, fun b u _ e => by rw [upd_ne (ne_of_none e hp)]; exact e, fun _ _ e _ => e, fun _ z => z.elim⟩
theorem same_upd {F H : Hp} (h : Same F H) {p : Addr} {o : HO} (fp : F p = none) : Same F (upd H p o) := fun b u e => by
  rw [upd_ne (ne_of_none e fp)]; exact h _ _ e

/-! ### slots -/
/-- a thing of one's own: where it lies (fp), and what holds of it; F the frozen heap, H the whole one -/
structure Own where
  fp : List Addr
  root : V
  ok : PySem.W.Frag → Hp → Hp → V → Prop
  stay : ∀ {K : PySem.W.Frag} {F F' H H' : Hp} {v : V}, Same F F' → (∀ b ∈ fp, ∀ o, H b = some o → H' b = some o) → ok K F H v → ok K F' H' v
  there : ∀ {K : PySem.W.Frag} {F H : Hp} {v : V}, ok K F H v → ∀ b ∈ fp, H b ≠ none
  rt : ∀ {K : PySem.W.Frag} {F H : Hp} {v : V}, ok K F H v → v = root
/-- a list of data -/
def ownL {α : Type} (i : Rep α) (a : Addr) (xs : List α) : Own where
  fp := [a]
  root := .ref a
  ok := fun K F H v => v = .ref a ∧ ∃ vs, H a = some (.lst vs) ∧ Paired (fun u x => i.rp K F u x) vs xs
  stay := fun s k ⟨e, vs, h, p⟩ => ⟨e, vs, k a (List.mem_singleton.mpr rfl) _ h, Paired.mapP p fun _ _ q => i.mono s q⟩
  there := fun ⟨_, vs, h, _⟩ b hb z => by rw [List.mem_singleton.mp hb, h] at z; cases z
  rt := fun h => h.1
inductive Slot : Type 1 where
  | no
  | val {α : Type} (i : Rep α) (x : α)
  | own (o : Own)
abbrev Slot.lst {α : Type} (i : Rep α) (a : Addr) (xs : List α) : Slot := .own (ownL i a xs)
abbrev vl {α : Type} [i : Rep α] (x : α) : Slot := .val i x
abbrev ls {α : Type} [i : Rep α] (a : Addr) (xs : List α) : Slot := .lst i a xs
/-- what comes out of a def: data, a new list, or a new thing of the asker's own -/
inductive Ret : Type 1 where
  | val {α : Type} (i : Rep α) (x : α)
  | new {α : Type} (i : Rep α) (xs : List α)
  | own (P : Own → Prop)
  | chg {α : Type} (i : Rep α) (x : α) (os : List Own)
abbrev rv {α : Type} [i : Rep α] (x : α) : Ret := .val i x
abbrev rn {α : Type} [i : Rep α] (xs : List α) : Ret := .new i xs
structure Bs where
  F : Hp
  H : Hp
  M : Addr → Prop
/-- new since the entry, or handed over at it -/
def Bs.nw (B : Bs) (b : Addr) : Prop := B.H b = none ∨ B.M b
def SlotOk (K : PySem.W.Frag) (B : Bs) (F H : Hp) (ov : Option V) : Slot → Prop
  | .no => True
  | .val i x => ∃ v, ov = some v ∧ i.rp K F v x
  | .own o => ∃ v, ov = some v ∧ o.ok K F H v ∧ ∀ b ∈ o.fp, F b = none ∧ B.nw b
def Slot.isOwn : Slot → Bool
  | .own _ => true
  | _ => false
/-- own things lie apart -/
def Apart (Γ : List Slot) : Prop := ∀ (i j : Nat) o1 o2, i ≠ j → Γ[i]? = some (.own o1) → Γ[j]? = some (.own o2) → ∀ b ∈ o1.fp, b ∉ o2.fp
/-- the places of the frame, and what they hold -/
structure Lc (K : PySem.W.Frag) (B : Bs) (F H : Hp) (σ : L2.St) (Γ : List Slot) : Prop where
  ext : ExtM B.M B.F B.H F H
  len : σ.length = Γ.length
  ok : ∀ (i : Nat) s, Γ[i]? = some s → SlotOk K B F H (σ[i]?).join s
  ap : Apart Γ
section
variable {K : PySem.W.Frag} {B : Bs} {F H F' H' : Hp} {σ : L2.St} {Γ : List Slot} {α : Type} {i : Rep α}
theorem Lc.same (L : Lc K B F H σ Γ) : Same F H := L.ext.fh
theorem Lc.there (L : Lc K B F H σ Γ) : ∀ x, B.M x → B.H x ≠ none → H x ≠ none := L.ext.th
theorem Lc.nw (L : Lc K B F H σ Γ) {b : Addr} (h : H b = none) : B.nw b := by
  by_cases hm : B.M b
  · exact .inr hm
  · refine .inl ?_
    cases q : B.H b with
    | none => rfl
    | some o => rw [L.ext.hh b o hm q] at h; cases h
theorem SlotOk.step {ov : Option V} {s : Slot} (e : Ext F H F' H') (h : SlotOk K B F H ov s) : SlotOk K B F' H' ov s := by
  cases s with
  | no => trivial
  | val i x => obtain ⟨v, e1, r⟩ := h; exact ⟨v, e1, i.mono e.ff r⟩
  | own o =>
    obtain ⟨v, e1, ok, f⟩ := h
    exact ⟨v, e1, o.stay e.ff (fun b _ u q => e.hs _ _ q) ok, fun b hb => ⟨e.nw b (f b hb).1 (o.there ok b hb), (f b hb).2⟩⟩
theorem Lc.step (L : Lc K B F H σ Γ) (e : Ext F H F' H') : Lc K B F' H' σ Γ := ⟨L.ext.trans e, L.len, fun j s h => (L.ok j s h).step e, L.ap⟩
theorem slot_val {k : Nat} {x : α} (L : Lc K B F H σ Γ) (h : Γ[k]? = some (.val i x)) : ∃ v, σ[k]? = some (some v) ∧ i.rp K F v x := by
  obtain ⟨v, e, r⟩ := L.ok k _ h
  refine ⟨v, ?_, r⟩
  cases q : σ[k]? with
  | none => rw [q] at e; cases e
  | some o => rw [q] at e; rw [← e]; rfl
theorem slot_own {k : Nat} {o : Own} (L : Lc K B F H σ Γ) (h : Γ[k]? = some (.own o)) : ∃ v, σ[k]? = some (some v) ∧ o.ok K F H v ∧ ∀ b ∈ o.fp, F b = none ∧ B.nw b := by
  obtain ⟨v, e, r⟩ := L.ok k _ h
  refine ⟨v, ?_, r⟩
  cases q : σ[k]? with
  | none => rw [q] at e; cases e
  | some o => rw [q] at e; rw [← e]; rfl
theorem slot_lst {k : Nat} {a : Addr} {xs : List α} (L : Lc K B F H σ Γ) (h : Γ[k]? = some (.lst i a xs)) :
    ∃ vs, σ[k]? = some (some (.ref a)) ∧ F a = none ∧ B.nw a ∧ H a = some (.lst vs) ∧ Paired (fun u x => i.rp K F u x) vs xs := by
  obtain ⟨v, e, ⟨rfl, vs, h1, p⟩, f⟩ := slot_own L h
  exact ⟨vs, e, (f a (List.mem_singleton.mpr rfl)).1, (f a (List.mem_singleton.mpr rfl)).2, h1, p⟩
theorem get_set_join {σ : L2.St} {k j : Nat} {o : Option V} : ((σ.set k o)[j]?).join = if k = j ∧ j < σ.length then o else (σ[j]?).join := by
  by_cases h : k = j
  · subst h
    by_cases hl : k < σ.length
    · rw [List.getElem?_set_self hl, if_pos ⟨rfl, hl⟩]; rfl
    · rw [List.getElem?_eq_none (by simpa using hl), if_neg (fun z => hl z.2), List.getElem?_eq_none (by simpa using hl)]
  · rw [List.getElem?_set_ne h, if_neg (fun z => h z.1)]
theorem get_set_slot {Γ : List Slot} {k j : Nat} {o s : Slot} (h : (Γ.set k o)[j]? = some s) : (k = j ∧ j < Γ.length ∧ s = o) ∨ (k ≠ j ∧ Γ[j]? = some s) := by
  by_cases e : k = j
  · subst e
    have hl : k < Γ.length := by
      have := (List.getElem?_eq_some_iff.mp h).1
      simpa using this
    rw [List.getElem?_set_self hl] at h
    exact .inl ⟨rfl, hl, (Option.some.inj h).symm⟩
  · rw [List.getElem?_set_ne e] at h
    exact .inr ⟨e, h⟩
theorem Apart.put (A : Apart Γ) (k : Nat) {s : Slot} (hs : s.isOwn = false) : Apart (Γ.set k s) := fun i j o1 o2 hij h1 h2 => by
  rcases get_set_slot h1 with ⟨_, _, e⟩ | ⟨_, h1⟩
  · rw [← e] at hs; cases hs
  rcases get_set_slot h2 with ⟨_, _, e⟩ | ⟨_, h2⟩
  · rw [← e] at hs; cases hs
  exact A i j o1 o2 hij h1 h2
theorem Apart.putO (A : Apart Γ) (k : Nat) {o : Own} (h : ∀ (j : Nat) o', k ≠ j → Γ[j]? = some (.own o') → ∀ b ∈ o.fp, b ∉ o'.fp) : Apart (Γ.set k (.own o)) := fun i j o1 o2 hij h1 h2 b hb1 hb2 => by
  rcases get_set_slot h1 with ⟨k1, _, e⟩ | ⟨n1, h1⟩
  · cases e
    rcases get_set_slot h2 with ⟨k2, _, e⟩ | ⟨n2, h2⟩
    · exact hij (k1.symm.trans k2)
    · exact h j o2 n2 h2 b hb1 hb2
  · rcases get_set_slot h2 with ⟨k2, _, e⟩ | ⟨n2, h2⟩
    · cases e
      exact h i o1 n1 h1 b hb2 hb1
    · exact A i j o1 o2 hij h1 h2 b hb1 hb2
/-- a place is given something that owns nothing -/
theorem Lc.put (L : Lc K B F H σ Γ) (k : Nat) {ov : Option V} {s : Slot} (hs : s.isOwn = false) (ho : SlotOk K B F H ov s) : Lc K B F H (σ.set k ov) (Γ.set k s) := by
  refine ⟨L.ext, by simp [L.len], fun j t h => ?_, L.ap.put k hs⟩
  rw [get_set_join]
  rcases get_set_slot h with ⟨e1, e2, rfl⟩ | ⟨e1, h⟩
  · rw [if_pos ⟨e1, by rw [L.len]; exact e2⟩]; exact ho
  · rw [if_neg fun z => e1 z.1]; exact L.ok j t h
theorem Lc.putV (L : Lc K B F H σ Γ) (k : Nat) {v : V} {x : α} (r : i.rp K F v x) : Lc K B F H (σ.set k (some v)) (Γ.set k (.val i x)) := L.put k rfl ⟨v, rfl, r⟩
theorem Lc.putN (L : Lc K B F H σ Γ) (k : Nat) (o : Option V) : Lc K B F H (σ.set k o) (Γ.set k .no) := L.put k rfl trivial
theorem Lc.ne_own (L : Lc K B F H σ Γ) {b : Addr} (hb : H b = none) {j : Nat} {o : Own} (h : Γ[j]? = some (.own o)) : b ∉ o.fp := fun hm => by
  obtain ⟨v, _, ok, _⟩ := slot_own L h
  exact o.there ok b hm hb
/-- a place is given a new thing of its own -/
theorem Lc.putO (L : Lc K B F H σ Γ) (k : Nat) (e : Ext F H F' H') {o : Own} {v : V} (new : ∀ b ∈ o.fp, H b = none ∧ F' b = none) (ok : o.ok K F' H' v) : Lc K B F' H' (σ.set k (some v)) (Γ.set k (.own o)) := by
  have L' := L.step e
  refine ⟨L'.ext, by simp [L.len], fun j t h => ?_, L.ap.putO k fun j o' _ h b hb => L.ne_own (new b hb).1 h⟩
  rw [get_set_join]
  rcases get_set_slot h with ⟨e1, e2, rfl⟩ | ⟨e1, h⟩
  · rw [if_pos ⟨e1, by rw [L.len]; exact e2⟩]
    exact ⟨v, rfl, ok, fun b hb => ⟨(new b hb).2, L.nw (new b hb).1⟩⟩
  · rw [if_neg fun z => e1 z.1]; exact L'.ok j t h
/-- a place is given a new list of its own -/
theorem Lc.putL (L : Lc K B F H σ Γ) (k : Nat) (e : Ext F H F' H') {a : Addr} {vs : List V} {xs : List α} (ha : H a = none) (fa : F' a = none) (h' : H' a = some (.lst vs)) (p : Paired (fun u x => i.rp K F' u x) vs xs) :
    Lc K B F' H' (σ.set k (some (.ref a))) (Γ.set k (.lst i a xs)) := L.putO k e (fun b hb => by rw [List.mem_singleton.mp hb]; exact ⟨ha, fa⟩) ⟨rfl, vs, h', p⟩
/-- the own thing of a place is changed -/
theorem Lc.updO (L : Lc K B F H σ Γ) {k : Nat} {o o' : Own} {v : V} (hk : Γ[k]? = some (.own o)) (hv : σ[k]? = some (some v)) (keep : ∀ b u, b ∉ o.fp → H b = some u → H' b = some u) (old : ∀ b ∈ o.fp, H' b ≠ none)
    (fp : ∀ b ∈ o'.fp, b ∈ o.fp ∨ H b = none) (ok : o'.ok K F H' v) : Lc K B F H' σ (Γ.set k (.own o')) := by
  obtain ⟨_, _, _, f⟩ := slot_own L hk
  have nfp : ∀ b u, F b = some u → b ∉ o.fp := fun b u q hb => by rw [(f b hb).1] at q; cases q
  refine ⟨⟨L.ext.ff, fun b u q => keep b u (nfp b u q) (L.same _ _ q), fun b u nb q => ?_, L.ext.nwM, fun x hx hb => ?_⟩, by simp [L.len], fun q t h => ?_, L.ap.putO k fun j o2 hj h b hb => ?_⟩
  · refine keep b u (fun hb => ?_) (L.ext.hh b u nb q)
    rcases (f b hb).2 with z | z
    · rw [z] at q; cases q
    · exact nb z
  · by_cases hm : x ∈ o.fp
    · exact old x hm
    · have := L.there x hx hb
      cases q : H x with
      | none => exact absurd q this
      | some u => rw [keep x u hm q]; exact fun z => nomatch z
  · rcases get_set_slot h with ⟨e1, e2, rfl⟩ | ⟨e1, hq⟩
    · subst e1
      rw [hv]
      refine ⟨v, rfl, ok, fun b hb => ?_⟩
      rcases fp b hb with z | z
      · exact f b z
      · exact ⟨L.same.free z, L.nw z⟩
    · have old' := L.ok q t hq
      cases t with
      | no => trivial
      | val i x => exact old'
      | own o2 =>
        obtain ⟨u, eu, ok2, f2⟩ := old'
        exact ⟨u, eu, o2.stay (Same.refl F) (fun b hb w q1 => keep b w (fun hb2 => L.ap k q o o2 e1 hk hq b hb2 hb) q1) ok2, f2⟩
  · rcases fp b hb with z | z
    · exact L.ap k j o o2 hj hk h b z
    · exact L.ne_own z h
/-- the own list of a place is changed -/
theorem Lc.updL (L : Lc K B F H σ Γ) {k : Nat} {a : Addr} {β : Type} {j : Rep β} {ys : List β} {vs' : List V} {xs' : List α} (hk : Γ[k]? = some (.lst j a ys)) (p : Paired (fun u x => i.rp K F u x) vs' xs') :
    Lc K B F (upd H a (.lst vs')) σ (Γ.set k (.lst i a xs')) := by
  obtain ⟨vs, ea, _⟩ := slot_lst L hk
  refine L.updO hk ea (fun b u hb q => ?_) (fun b hb => ?_) (fun b hb => .inl hb) ⟨rfl, vs', upd_same, p⟩
  · rw [upd_ne (fun z => hb (List.mem_singleton.mpr z))]; exact q
  · rw [List.mem_singleton.mp hb, upd_same]; exact fun z => nomatch z
end

/-! ### what a code's run asks, without a reading -/
section
variable {X : Cx} {σ : L2.St} {H : Hp}
structure WE (X : Cx) (e : Expr) (σ : L2.St) (H : Hp) (Q : VK) : Prop where
  go : ∀ pins s, Inv X pins σ H s → wpAny (model X.prog X.w) X.A (eval e X.env) (EP X pins σ Q) X.xe s
structure WT (X : Cx) (e : Expr) (σ : L2.St) (H : Hp) (Q : Bool → Hp → Prop) : Prop where
  go : ∀ pins s, Inv X pins σ H s → wpAny (model X.prog X.w) X.A (isTrue e X.env (eval e X.env)) (TP X pins σ Q) X.xe s
structure WA (X : Cx) (es : List Expr) (σ : L2.St) (H : Hp) (Q : List V → Hp → Prop) : Prop where
  go : ∀ pos pins s, Inv X pins σ H s → wpAny (model X.prog X.w) X.A (spliced (backTo pos (starEach es X.env))) (AP X pins σ Q) X.xe s
structure WP (X : Cx) (st : List Stmt) (D : Ends) (σ : L2.St) (H : Hp) : Prop where
  go : ∀ pins s, Inv X pins σ H s → wpAny (model X.prog X.w) X.A (execs st X.env) (SP X pins D) X.xe s
theorem peW {e : Expr} : PE X e (WE X e) := ⟨fun pins s _ _ _ I h => h.go pins s I⟩
theorem ptW {e : Expr} : PT X e (WT X e) := ⟨fun pins s _ _ _ I h => h.go pins s I⟩
theorem paW {es : List Expr} : PA X es (WA X es) := ⟨fun pos pins s _ _ _ I h => h.go pos pins s I⟩
theorem psW {st : List Stmt} : PSs X st (WP X st) := ⟨fun pins s _ _ _ I h => h.go pins s I⟩
theorem WE.of {e : Expr} {t : TE} {Q : VK} (p : PE X e t) (h : t σ H Q) : WE X e σ H Q := ⟨fun pins s I => p.run pins s σ H Q I h⟩
theorem WT.of {e : Expr} {t : TT} {Q : Bool → Hp → Prop} (p : PT X e t) (h : t σ H Q) : WT X e σ H Q := ⟨fun pins s I => p.run pins s σ H Q I h⟩
theorem WA.of {es : List Expr} {t : TA} {Q : List V → Hp → Prop} (p : PA X es t) (h : t σ H Q) : WA X es σ H Q := ⟨fun pos pins s I => p.run pos pins s σ H Q I h⟩
theorem WP.of {st : List Stmt} {t : TS} {D : Ends} (p : PSs X st t) (h : t D σ H) : WP X st D σ H := ⟨fun pins s I => p.run pins s σ H D I h⟩
theorem WP.cons {st : Stmt} {rest : List Stmt} {t : TS} {D : Ends} (p : PS X st t) (h : t { D with nx := fun σ' H' => WP X rest D σ' H' } σ H) : WP X (st :: rest) D σ H :=
  WP.of (pss_cons p psW) h
end

/-! ### the judgements -/
/-- what comes out: data, or a new thing; N: what counts as new -/
def ROk (K : PySem.W.Frag) (N : Addr → Prop) (F' H' : Hp) (v : V) : Ret → Prop
  | .val i x => i.rp K F' v x
  | .new i xs => ∃ a vs, v = .ref a ∧ N a ∧ F' a = none ∧ H' a = some (.lst vs) ∧ Paired (fun u x => i.rp K F' u x) vs xs
  | .own P => ∃ o, P o ∧ (∀ b ∈ o.fp, N b ∧ F' b = none) ∧ o.ok K F' H' v
  | .chg i x os => i.rp K F' v x ∧ (∀ o ∈ os, o.ok K F' H' o.root ∧ ∀ b ∈ o.fp, N b ∧ F' b = none) ∧ os.Pairwise fun o1 o2 => ∀ b ∈ o1.fp, b ∉ o2.fp
/-- not there -/
abbrev Nw (H : Hp) : Addr → Prop := fun b => H b = none
theorem ROk.imp {K : PySem.W.Frag} {N N' : Addr → Prop} {F' H' : Hp} {v : V} {r : Ret} (h : ROk K N F' H' v r) (n : ∀ b, N b → N' b) : ROk K N' F' H' v r := by
  cases r with
  | val i x => exact h
  | new i xs => obtain ⟨a, vs, e, h1, h2⟩ := h; exact ⟨a, vs, e, n a h1, h2⟩
  | own P => obtain ⟨o, p, f, ok⟩ := h; exact ⟨o, p, fun b hb => ⟨n b (f b hb).1, (f b hb).2⟩, ok⟩
  | chg i x os => obtain ⟨r, f, d⟩ := h; exact ⟨r, fun o ho => ⟨(f o ho).1, fun b hb => ⟨n b ((f o ho).2 b hb).1, ((f o ho).2 b hb).2⟩⟩, d⟩
def EX (X : Cx) (Γ : List Slot) (e : Expr) (P : Ret → Prop) : Prop :=
  ∀ B F H σ Q, Lc X.K B F H σ Γ → (∀ r v F' H', P r → Ext F H F' H' → ROk X.K (Nw H) F' H' v r → Q v H') → WE X e σ H Q
def EV (X : Cx) (Γ : List Slot) (e : Expr) {α : Type} [i : Rep α] (x : α) : Prop :=
  ∀ B F H σ Q, Lc X.K B F H σ Γ → (∀ v F' H', Ext F H F' H' → i.rp X.K F' v x → Q v H') → WE X e σ H Q
/-- a new list -/
def EN (X : Cx) (Γ : List Slot) (e : Expr) {α : Type} [i : Rep α] (xs : List α) : Prop :=
  ∀ B F H σ Q, Lc X.K B F H σ Γ → (∀ a vs F' H', Ext F H F' H' → H a = none → F' a = none → H' a = some (.lst vs) → Paired (fun u x => i.rp X.K F' u x) vs xs → Q (.ref a) H') → WE X e σ H Q
def ET (X : Cx) (Γ : List Slot) (e : Expr) (b : Bool) : Prop :=
  ∀ B F H σ Q, Lc X.K B F H σ Γ → (∀ F' H', Ext F H F' H' → Q b H') → WT X e σ H Q
def VsOk (K : PySem.W.Frag) (F : Hp) : List V → List Slot → Prop
  | [], [] => True
  | v :: vs, .val i x :: A => i.rp K F v x ∧ VsOk K F vs A
  | _, _ => False
def EA (X : Cx) (Γ : List Slot) (es : List Expr) (A : List Slot) : Prop :=
  ∀ B F H σ Q, Lc X.K B F H σ Γ → (∀ vs F' H', Ext F H F' H' → VsOk X.K F' vs A → Q vs H') → WA X es σ H Q
theorem VsOk.mono {K : PySem.W.Frag} {F F' : Hp} (s : Same F F') : ∀ {vs : List V} {A : List Slot}, VsOk K F vs A → VsOk K F' vs A
  | [], [], _ => trivial
  | v :: vs, .val i x :: A, h => ⟨i.mono s h.1, VsOk.mono s h.2⟩
  | [], _ :: _, h => h.elim
  | _ :: _, [], h => h.elim
  | _ :: _, .no :: _, h => h.elim
  | _ :: _, .own _ :: _, h => h.elim
theorem VsOk.len {K : PySem.W.Frag} {F : Hp} : ∀ {vs : List V} {A : List Slot}, VsOk K F vs A → vs.length = A.length
  | [], [], _ => rfl
  | v :: vs, .val i x :: A, h => by rw [List.length_cons, List.length_cons, VsOk.len h.2]
  | [], _ :: _, h => h.elim
  | _ :: _, [], h => h.elim
  | _ :: _, .no :: _, h => h.elim
  | _ :: _, .own _ :: _, h => h.elim

/-! ### what a def promises -/
/-- an exception: its class by name, and the field that its __init__ sets (why is .no where there is none) -/
structure Exn where
  cls : Str
  fld : Str
  why : Slot
abbrev Spec := List Slot → (Ret → Prop) → (Exn → Prop) → Prop
def XOk (K : PySem.W.Frag) (N : Addr → Prop) (F' H' : Hp) (u : Value) (d : Option Addr) (x : Exn) : Prop :=
  ∃ C, u = .ref C ∧ PySem.W.nsIn K mainGlobals x.cls = some (some (.ref C)) ∧
    match x.why with
    | .no => d = none
    | .val i y => ∃ dx w, d = some dx ∧ N dx ∧ F' dx = none ∧ H' dx = some (.xd [(x.fld, w)]) ∧ i.rp K F' w y
    | .own _ => False
theorem XOk.imp {K : PySem.W.Frag} {N N' : Addr → Prop} {F' H' : Hp} {u : Value} {d : Option Addr} {x : Exn} (h : XOk K N F' H' u d x) (n : ∀ a, N a → N' a) : XOk K N' F' H' u d x := by
  obtain ⟨C, e1, e2, h⟩ := h
  refine ⟨C, e1, e2, ?_⟩
  obtain ⟨cls, fld, why⟩ := x
  cases why with
  | no => exact h
  | val i y =>
    obtain ⟨dx, w, e3, e4, h⟩ := h
    exact ⟨dx, w, e3, n _ e4, h⟩
  | own o => exact h
/-- in none of the own things -/
def Free (Γ : List Slot) (b : Addr) : Prop := ∀ (k : Nat) o, Γ[k]? = some (.own o) → b ∉ o.fp
/-- the least wish that the context takes -/
def XW (X : Cx) : WX := fun cls d σ H => ∀ u s', XE X (fun c d' σ' H' => c = cls ∧ d' = d ∧ σ' = σ ∧ H' = H) u s' → X.xe u s'
theorem takesW {X : Cx} : Takes X (XW X) := fun u s' ⟨a, B, sI, pins, σ, H, cls, d, e, I, nb, up, sky, na, os, ag, h⟩ => h u s' ⟨a, B, sI, pins, σ, H, cls, d, e, I, nb, up, sky, na, os, ag, rfl, rfl, rfl, rfl⟩
theorem XW.of {X : Cx} {W : WX} (tk : Takes X W) {cls : Value} {d : Option Addr} {σ : L2.St} {H : Hp} (h : W cls d σ H) : XW X cls d σ H := fun u s' ⟨a, B, sI, pins, σ', H', cls', d', e, I, nb, up, sky, na, os, ag, e1, e2, e3, e4⟩ => by
  subst e1 e2 e3 e4
  exact tk u s' ⟨a, B, sI, pins, σ', H', cls', d', e, I, nb, up, sky, na, os, ag, h⟩
/-- arguments, own things among them -/
def VsOkO (K : PySem.W.Frag) (F H : Hp) : List V → List Slot → Prop
  | [], [] => True
  | v :: vs, .val i x :: A => i.rp K F v x ∧ VsOkO K F H vs A
  | v :: vs, .own o :: A => o.ok K F H v ∧ (∀ b ∈ o.fp, F b = none) ∧ VsOkO K F H vs A
  | _, _ => False
/-- where the own things among arguments lie -/
def MA (A : List Slot) : Addr → Prop := fun b => ∃ o, Slot.own o ∈ A ∧ b ∈ o.fp
theorem VsOkO.len {K : PySem.W.Frag} {F H : Hp} : ∀ {vs : List V} {A : List Slot}, VsOkO K F H vs A → vs.length = A.length
  | [], [], _ => rfl
  | v :: vs, .val i x :: A, h => by rw [List.length_cons, List.length_cons, VsOkO.len h.2]
  | v :: vs, .own o :: A, h => by rw [List.length_cons, List.length_cons, VsOkO.len h.2.2]
  | [], _ :: _, h => h.elim
  | _ :: _, [], h => h.elim
  | _ :: _, .no :: _, h => h.elim
theorem VsOk.toO {K : PySem.W.Frag} {F H : Hp} : ∀ {vs : List V} {A : List Slot}, VsOk K F vs A → VsOkO K F H vs A
  | [], [], _ => trivial
  | v :: vs, .val i x :: A, h => ⟨h.1, VsOk.toO h.2⟩
  | [], _ :: _, h => h.elim
  | _ :: _, [], h => h.elim
  | _ :: _, .no :: _, h => h.elim
  | _ :: _, .own _ :: _, h => h.elim
theorem VsOk.no {K : PySem.W.Frag} {F : Hp} : ∀ {vs : List V} {A : List Slot}, VsOk K F vs A → ∀ o, Slot.own o ∉ A
  | [], [], _, _, h => by cases h
  | v :: vs, .val i x :: A, h, o, m => by
    rcases List.mem_cons.mp m with z | z
    · cases z
    · exact VsOk.no h.2 o z
  | [], _ :: _, h, _, _ => h.elim
  | _ :: _, [], h, _, _ => h.elim
  | _ :: _, .no :: _, h, _, _ => h.elim
  | _ :: _, .own _ :: _, h, _, _ => h.elim
theorem VsOk.apart {K : PySem.W.Frag} {F : Hp} {vs : List V} {A : List Slot} (h : VsOk K F vs A) : Apart A := fun i j o1 o2 _ h1 _ => absurd (List.mem_of_getElem? h1) (h.no o1)
theorem VsOk.ma {K : PySem.W.Frag} {F : Hp} {vs : List V} {A : List Slot} (h : VsOk K F vs A) {b : Addr} (m : MA A b) : False := by
  obtain ⟨o, h1, _⟩ := m
  exact h.no o h1
/-- behind a call that was handed new things -/
theorem Ext.thenM {M : Addr → Prop} {F H F1 H1 F2 H2 : Hp} (a : Ext F H F1 H1) (b : ExtM M F1 H1 F2 H2) (n : ∀ x, M x → H x = none) : Ext F H F2 H2 :=
  ⟨a.ff.trans b.ff, b.fh, fun x o _ h => b.hh x o (fun m => by rw [n x m] at h; cases h) (a.hs x o h), fun x _ h1 h2 => b.nwM x (fun m => h2 (n x m)) (a.nw x h1 h2) (by
    cases q : H x with
    | none => exact absurd q h2
    | some o => rw [a.hs x o q]; exact fun z => nomatch z), fun _ z => z.elim⟩
def spOf (K : PySem.W.Frag) (S : Spec) : Sp := fun vs H Q E => ∃ F A, Same F H ∧ VsOkO K F H vs A ∧ Apart A ∧
  S A (fun r => ∀ v F' H', ExtM (MA A) F H F' H' → ROk K (Bs.nw ⟨F, H, MA A⟩) F' H' v r → Q v H') (fun x => ∀ u d F' H', ExtM (MA A) F H F' H' → XOk K (Bs.nw ⟨F, H, MA A⟩) F' H' u d x → E u d H')
/-- the def of a name keeps its promise -/
structure Has (P : Program) (w : World) (K : PySem.W.Frag) (mg : Str → Option Value) (base : Heap) (k : Nat) (n : Str) (ps : List Str) (S : Spec) : Prop where
  ex : ∃ f fd, mg n = some (.ref f) ∧ PySem.W.keepIn K (.ref f) = true ∧ Binds K fd ps [] ∧ FnOk P w K mg base (L2.CX P w) k f fd ps (spOf K S)

/-! ### statements -/
structure SE where
  nx : List Slot → Prop
  rt : Ret → Prop
  bk : List Slot → Prop
  ct : List Slot → Prop
  ex : List Slot → Exn → Prop
/-- the ends of a def's body -/
abbrev fin (Q : Ret → Prop) : SE := ⟨fun _ => Q (.val repUnit ()), Q, fun _ => False, fun _ => False, fun _ _ => False⟩
abbrev finX (Q : Ret → Prop) (R : Exn → Prop) : SE := ⟨fun _ => Q (.val repUnit ()), Q, fun _ => False, fun _ => False, fun _ => R⟩
structure ED (X : Cx) (B : Bs) (F0 : Hp) (E : SE) (D : Ends) : Prop where
  nx : ∀ F H σ Γ, Same F0 F → E.nx Γ → Lc X.K B F H σ Γ → D.nx σ H
  rt : ∀ r v F H, E.rt r → ExtM B.M B.F B.H F H → ROk X.K B.nw F H v r → D.rt v H
  bk : ∀ F H σ Γ, Same F0 F → E.bk Γ → Lc X.K B F H σ Γ → D.bk σ H
  ct : ∀ F H σ Γ, Same F0 F → E.ct Γ → Lc X.K B F H σ Γ → D.ct σ H
  ex : ∀ F H σ Γ x u d, Same F0 F → E.ex Γ x → Lc X.K B F H σ Γ → XOk X.K (fun b => B.nw b ∧ Free Γ b) F H u d x → XW X u d σ H
theorem ED.weak {X : Cx} {B : Bs} {F0 F1 : Hp} {E : SE} {D : Ends} (h : ED X B F0 E D) (s : Same F0 F1) : ED X B F1 E D :=
  ⟨fun F H σ Γ q => h.nx F H σ Γ (s.trans q), h.rt, fun F H σ Γ q => h.bk F H σ Γ (s.trans q), fun F H σ Γ q => h.ct F H σ Γ (s.trans q), fun F H σ Γ x u d q => h.ex F H σ Γ x u d (s.trans q)⟩
theorem ED.exS {X : Cx} {B : Bs} {F0 F H F' H' : Hp} {E : SE} {D : Ends} {Γ : List Slot} {σ : L2.St} {x : Exn} {u : Value} {d : Option Addr} (ed : ED X B F0 E D) (s : Same F0 F) (hE : E.ex Γ x) (L : Lc X.K B F H σ Γ) (e : Ext F H F' H') (ok : XOk X.K (Nw H) F' H' u d x) : XW X u d σ H' :=
  ed.ex F' H' σ Γ x u d (s.trans e.ff) hE (L.step e) (ok.imp fun b h => ⟨L.nw h, fun k o hk => L.ne_own h hk⟩)
def ST (X : Cx) (sts : List Stmt) (Γ : List Slot) (E : SE) : Prop :=
  ∀ B F H σ D, Lc X.K B F H σ Γ → ED X B F E D → WP X sts D σ H
/-- no star ahead of an argument -/
def noStar : Expr → Bool
  | .Starred .. => false
  | _ => true
theorem star_of {e : Expr} {es : List Expr} {env : Env} (h : noStar e = true) : starEach (e :: es) env = (false, eval e env) :: starEach es env := by
  cases e <;> first | rfl | cases h
theorem pl_of {pos : Pos} {env : Env} : ∀ {es : List Expr}, es.all noStar = true → (backTo pos (starEach es env)).any (·.1) = false
  | [], _ => rfl
  | e :: es, h => by
    rw [List.all_cons, Bool.and_eq_true] at h
    rw [star_of h.1]
    exact pl_of h.2
end Tw

namespace Tw
open PySem PySem.Spec PyProof.Rows L2 TL

abbrev tx (s : String) : Tx := s.toList.map Char.toNat
theorem sl_small {n : Nat} (h : n ≤ 1000) : n ≤ sizeLine := Nat.le_trans h (by decide)
theorem sx_tx (s : String) : Str.ofString s = sx (tx s) := ext_tl (by rw [tl_ofString]; rfl)

section
variable {X : Cx} {Γ : List Slot} {α β γ : Type} {i : Rep α} {j : Rep β} {l : Rep γ} {pos p : Pos} {e a b c : Expr} {es : List Expr}

/-! ### passing from one to another -/
theorem ev_of_ex {x : α} (h : EX X Γ e fun r => r = .val i x) : EV X Γ e x := fun B F H σ Q L q =>
  h B F H σ Q L fun r v F' H' er ex ok => by subst er; exact q v F' H' ex ok
theorem en_of_ex {xs : List α} (h : EX X Γ e fun r => r = .new i xs) : EN X Γ e xs := fun B F H σ Q L q =>
  h B F H σ Q L fun r v F' H' er ex ok => by
    subst er
    obtain ⟨a, vs, rfl, h1, h2, h3, h4⟩ := ok
    exact q a vs F' H' ex h1 h2 h3 h4
theorem ev_of_en {xs : List α} (h : EN X Γ e xs) : EV X Γ e xs := fun B F H σ Q L q =>
  h B F H σ Q L fun a vs F' H' ex ha fa h' p => by
    have sm : Same F' (upd F' a (.lst vs)) := fun b u e => by rw [upd_ne (ne_of_none e fa)]; exact e
    refine q (.ref a) (upd F' a (.lst vs)) H' ⟨ex.ff.trans sm, fun b u e => ?_, ex.hh, fun b _ h1 h2 => ?_, fun _ z => z.elim⟩ ⟨a, vs, rfl, upd_same, Paired.mapP p fun _ _ q => i.mono sm q⟩
    · by_cases hb : b = a
      · subst hb; rw [upd_same] at e; rw [← e]; exact h'
      · rw [upd_ne hb] at e; exact ex.fh _ _ e
    · rw [upd_ne (fun z => by subst z; exact h2 ha)]; exact ex.nw b h1 h2
theorem ex_of_ev {x : α} {P : Ret → Prop} (h : EV X Γ e x) (hp : P (.val i x)) : EX X Γ e P := fun B F H σ Q L q =>
  h B F H σ Q L fun v F' H' ex r => q (.val i x) v F' H' hp ex r
theorem ex_of_en {xs : List α} {P : Ret → Prop} (h : EN X Γ e xs) (hp : P (.new i xs)) : EX X Γ e P := fun B F H σ Q L q =>
  h B F H σ Q L fun a vs F' H' ex ha fa h' p => q (.new i xs) (.ref a) F' H' hp ex ⟨a, vs, rfl, ha, fa, h', p⟩
theorem ev_eq {x y : α} (h : EV X Γ e x) (q : x = y) : EV X Γ e y := q ▸ h
theorem en_eq {x y : List α} (h : EN X Γ e x) (q : x = y) : EN X Γ e y := q ▸ h
theorem et_eq {x y : Bool} (h : ET X Γ e x) (q : x = y) : ET X Γ e y := q ▸ h
theorem et_val {k : Bool} (h : EV X Γ e k) (he : ∀ whole, isTrue e X.env whole = (do let v ← whole; standAt e.pos; holding [v] (truthy v)) := by intro _; rfl) : ET X Γ e k := fun B F H σ Q L q =>
  WT.of (pt_val peW he) (h B F H σ _ L fun v F' H' ex r => ⟨k, r, q F' H' ex⟩)

/-! ### names, constants -/
theorem ev_var (k : Nat) {n : Str} {x : α} (hN : X.N[k]? = some n := by rfl) (hv : Vis X.env.scope n := by first | exact Or.inl rfl | exact Or.inr (Or.inl rfl) | exact Or.inr (Or.inr rfl)) (hd : (n == ("__debug__" : Str)) = false := by decide)
    (hcd : (n == ("__classdict__" : Str)) = false := by decide) (hg : Γ[k]? = some (.val i x) := by rfl) : EV X Γ (.Name n pos) x := fun B F H σ Q L q => by
  obtain ⟨v, e1, r⟩ := slot_val L hg
  exact WE.of (pe_var hN hv hd hcd) ⟨v, e1, q v F H (Ext.refl L.same) r⟩
theorem ev_int {z : Int} {k} : EV X Γ (.Constant (.int z) k pos) z := fun B F H σ Q L q => WE.of pe_int (q _ F H (Ext.refl L.same) rfl)
theorem ev_bl {z : Bool} {k} : EV X Γ (.Constant (.bool z) k pos) z := fun B F H σ Q L q => WE.of pe_bl (q _ F H (Ext.refl L.same) rfl)
theorem ev_non {k} : EV X Γ (.Constant .none k pos) () := fun B F H σ Q L q => WE.of pe_non (q _ F H (Ext.refl L.same) rfl)
theorem ev_nonO {k} : EV X Γ (.Constant .none k pos) (none : Option α) := fun B F H σ Q L q => WE.of pe_non (q _ F H (Ext.refl L.same) rfl)
theorem ev_some {x : α} (h : EV X Γ e x) : EV X Γ e (some x) := fun B F H σ Q L q => h B F H σ Q L fun v F' H' ex r => q v F' H' ex r
theorem ev_str (s : String) {k} : EV X Γ (.Constant (.str (Str.ofString s)) k pos) (tx s) := fun B F H σ Q L q => WE.of pe_str (q _ F H (Ext.refl L.same) (congrArg V.str (sx_tx s)))
theorem ev_gint {n : Str} {z : Int} {t : Tok} (hm : X.mg n = some (.int z t)) (hg : Gl X n := by rfl) (hd : (n == ("__debug__" : Str)) = false := by decide) : EV X Γ (.Name n pos) z := fun B F H σ Q L q =>
  WE.of (pe_glob (v := .int z) hg hm ⟨t, rfl⟩ hd) (q _ F H (Ext.refl L.same) rfl)
theorem ev_gstr {n : Str} (s : String) {t : Tok} (hm : X.mg n = some (.str (Str.ofString s) t)) (hg : Gl X n := by rfl) (hd : (n == ("__debug__" : Str)) = false := by decide) : EV X Γ (.Name n pos) (tx s) := fun B F H σ Q L q =>
  WE.of (pe_glob (v := .str (Str.ofString s)) hg hm ⟨t, rfl⟩ hd) (q _ F H (Ext.refl L.same) (congrArg V.str (sx_tx s)))

/-! ### operators by values -/
/-- the largest rule of an operation -/
def rW (X : Cx) (f : Value → Value → Sem Value) : R2 := fun x y H Q => ∀ pins s σ v u, Inv X pins σ H s → RelV x v → RelV y u → wpAny (model X.prog X.w) X.A (f v u) (EP X pins σ Q) X.xe s
theorem opW {f : Value → Value → Sem Value} : OpR X f (rW X f) := fun pins s σ H x y v u Q I r1 r2 h => h pins s σ v u I r1 r2
/-- a binary operation on x, y gives z -/
def OB (X : Cx) (f : Value → Value → Sem Value) {α β γ : Type} [i : Rep α] [j : Rep β] [l : Rep γ] (x : α) (y : β) (z : γ) : Prop :=
  ∀ F H v u Q, Same F H → i.rp X.K F v x → j.rp X.K F u y → (∀ w F' H', Ext F H F' H' → l.rp X.K F' w z → Q w H') → rW X f v u H Q
theorem ob_flat {f : Value → Value → Sem Value} {x : α} {y : β} {z : γ} {r : R2} (o : OpR X f r)
    (h : ∀ F H v u Q, Same F H → i.rp X.K F v x → j.rp X.K F u y → (∀ w, l.rp X.K F w z → Q w H) → r v u H Q) : OB X f x y z :=
  fun F H v u Q s r1 r2 q pins s' σ v' u' I rv ru => o pins s' σ H v u v' u' Q I rv ru (h F H v u Q s r1 r2 fun w hw => q w F H (Ext.refl s) hw)
theorem ev_bin {op : Operator} {x : α} {y : β} {z : γ} (o : OB X (binaryOp op) x y z) (ha : EV X Γ a x) (hb : EV X Γ b y) : EV X Γ (.BinOp a op b pos) z := fun B F H σ Q L q =>
  WE.of (pe_op opW peW peW) (ha B F H σ _ L fun v F1 H1 e1 r1 => hb B F1 H1 σ _ (L.step e1) fun u F2 H2 e2 r2 =>
    o F2 H2 v u Q (L.step (e1.trans e2)).same (i.mono e2.ff r1) r2 fun w F3 H3 e3 r3 => q w F3 H3 ((e1.trans e2).trans e3) r3)
theorem ev_cmp {op : CmpOp} {x : α} {y : β} {z : Bool} (o : OB X (compareOp op) x y z) (ha : EV X Γ a x) (hb : EV X Γ b y) (hm : behindInMarks op b = false := by first | exact nomark _ | rfl) : EV X Γ (.Compare a [op] [b] pos) z := fun B F H σ Q L q =>
  WE.of (pe_cmpR opW peW peW hm) (ha B F H σ _ L fun v F1 H1 e1 r1 => hb B F1 H1 σ _ (L.step e1) fun u F2 H2 e2 r2 =>
    o F2 H2 v u Q (L.step (e1.trans e2)).same (i.mono e2.ff r1) r2 fun w F3 H3 e3 r3 => q w F3 H3 ((e1.trans e2).trans e3) r3)
theorem et_cmp {op : CmpOp} {x : α} {y : β} {z : Bool} (o : OB X (compareOp op) x y z) (ha : EV X Γ a x) (hb : EV X Γ b y) (hm : behindInMarks op b = false := by first | exact nomark _ | rfl) : ET X Γ (.Compare a [op] [b] pos) z := fun B F H σ Q L q =>
  WT.of (pt_cmpR opW peW peW hm) (ha B F H σ _ L fun v F1 H1 e1 r1 => hb B F1 H1 σ _ (L.step e1) fun u F2 H2 e2 r2 =>
    o F2 H2 v u _ (L.step (e1.trans e2)).same (i.mono e2.ff r1) r2 fun w F3 H3 e3 r3 => ⟨z, r3, q F3 H3 ((e1.trans e2).trans e3)⟩)
/-- a < b < c -/
theorem ev_chain {op op' : CmpOp} {x : α} {y : β} {w : γ} {k k' : Bool} (o : OB X (compareOp op) x y k) (o' : k = true → OB X (compareOp op') y w k') (ha : EV X Γ a x) (hb : EV X Γ b y) (hc : k = true → EV X Γ c w)
    (hm : lastMarks [op, op'] [b, c] = false := by with_unfolding_all rfl) : EV X Γ (.Compare a [op, op'] [b, c] pos) (k && k') := fun B F H σ Q L q =>
  WE.of (pe_chain opW opW peW peW peW hm) (ha B F H σ _ L fun v F1 H1 e1 r1 => hb B F1 H1 σ _ (L.step e1) fun u F2 H2 e2 r2 =>
    o F2 H2 v u _ (L.step (e1.trans e2)).same (i.mono e2.ff r1) r2 fun z F3 H3 e3 r3 => ⟨k, r3, by
      have e123 := (e1.trans e2).trans e3
      cases k with
      | false => exact q _ F3 H3 e123 rfl
      | true => exact hc rfl B F3 H3 σ _ (L.step e123) fun t F4 H4 e4 r4 => o' rfl F4 H4 u t Q (L.step (e123.trans e4)).same (j.mono (e3.trans e4).ff r2) r4 fun w F5 H5 e5 r5 => q w F5 H5 ((e123.trans e4).trans e5) (by rw [Bool.true_and]; exact r5)⟩)
theorem et_chain {op op' : CmpOp} {x : α} {y : β} {w : γ} {k k' : Bool} (o : OB X (compareOp op) x y k) (o' : k = true → OB X (compareOp op') y w k') (ha : EV X Γ a x) (hb : EV X Γ b y) (hc : k = true → EV X Γ c w)
    (hm : lastMarks [op, op'] [b, c] = false := by with_unfolding_all rfl) : ET X Γ (.Compare a [op, op'] [b, c] pos) (k && k') := fun B F H σ Q L q =>
  WT.of (pt_chain opW opW peW peW peW hm) (ha B F H σ _ L fun v F1 H1 e1 r1 => hb B F1 H1 σ _ (L.step e1) fun u F2 H2 e2 r2 =>
    o F2 H2 v u _ (L.step (e1.trans e2)).same (i.mono e2.ff r1) r2 fun z F3 H3 e3 r3 => ⟨k, r3, by
      have e123 := (e1.trans e2).trans e3
      cases k with
      | false => exact ⟨false, rfl, q F3 H3 e123⟩
      | true => exact hc rfl B F3 H3 σ _ (L.step e123) fun t F4 H4 e4 r4 => o' rfl F4 H4 u t _ (L.step (e123.trans e4)).same (j.mono (e3.trans e4).ff r2) r4 fun w F5 H5 e5 r5 => ⟨k', r5, by rw [Bool.true_and] at q; exact q F5 H5 ((e123.trans e4).trans e5)⟩⟩)

/-! ### whole numbers -/
theorem ob_I {f : Value → Value → Sem Value} {C : Int → Int → Prop} {g : Int → Int → Int} {x y : Int} (o : OpR X f (rI C fun i j => .int (g i j))) (h : C x y) : OB X f x y (g x y) :=
  ob_flat o fun F H v u Q s r1 r2 q => ⟨x, y, r1, r2, h, q _ rfl⟩
theorem ob_I0 {f : Value → Value → Sem Value} {g : Int → Int → Int} {x y : Int} (o : OpR X f (rI0 fun i j => .int (g i j))) : OB X f x y (g x y) :=
  ob_flat o fun F H v u Q s r1 r2 q => ⟨x, y, r1, r2, q _ rfl⟩
theorem ob_B0 {f : Value → Value → Sem Value} {g : Int → Int → Bool} {x y : Int} (o : OpR X f (rI0 fun i j => .bl (g i j))) : OB X f x y (g x y) :=
  ob_flat o fun F H v u Q s r1 r2 q => ⟨x, y, r1, r2, q _ rfl⟩
theorem o_add {x y : Int} : OB X (binaryOp .Add) x y (x + y) := ob_I0 op_add
theorem o_sub {x y : Int} : OB X (binaryOp .Sub) x y (x - y) := ob_I0 op_sub
theorem o_mul {x y : Int} (h : CMul x y) : OB X (binaryOp .Mult) x y (x * y) := ob_I op_mul h
theorem o_mod {x y : Int} (h : 0 < y) : OB X (binaryOp .Mod) x y (x % y) := ob_I op_mod h
theorem o_div {x y : Int} (h : CDivW x y) : OB X (binaryOp .FloorDiv) x y (x / y) := ob_I op_fdivW h
theorem o_lt {x y : Int} : OB X (compareOp .Lt) x y (decide (x < y)) := ob_B0 op_lt
theorem o_le {x y : Int} : OB X (compareOp .LtE) x y (decide (x ≤ y)) := ob_B0 op_le
theorem o_gt {x y : Int} : OB X (compareOp .Gt) x y (decide (y < x)) := ob_B0 op_gt
theorem o_ge {x y : Int} : OB X (compareOp .GtE) x y (decide (y ≤ x)) := ob_B0 op_ge
theorem o_eq {x y : Int} : OB X (compareOp .Eq) x y (decide (x = y)) := ob_flat op_eq fun F H v u Q s r1 r2 q => by
  obtain rfl : v = .int x := r1
  obtain rfl : u = .int y := r2
  exact ⟨rfl, q _ (show V.bl _ = V.bl _ by rw [dec_int, Bool.beq_eq_decide_eq])⟩
theorem o_ne {x y : Int} : OB X (compareOp .NotEq) x y (!decide (x = y)) := ob_flat op_ne fun F H v u Q s r1 r2 q => by
  obtain rfl : v = .int x := r1
  obtain rfl : u = .int y := r2
  exact ⟨rfl, q _ (show V.bl _ = V.bl _ by rw [dec_int, Bool.beq_eq_decide_eq])⟩
theorem dec_sx {x y : Tx} : decide (V.str (sx x) = V.str (sx y)) = decide (x = y) := by
  by_cases h : x = y
  · subst h; rw [decide_eq_true rfl, decide_eq_true rfl]
  · rw [decide_eq_false h, decide_eq_false fun z => h (sx_inj (V.str.inj z))]
theorem o_eqS {x y : Tx} : OB X (compareOp .Eq) x y (decide (x = y)) := ob_flat op_eq fun F H v u Q s r1 r2 q => by
  obtain rfl : v = .str (sx x) := r1
  obtain rfl : u = .str (sx y) := r2
  exact ⟨rfl, q _ (show V.bl _ = V.bl _ by rw [dec_sx])⟩
theorem o_neS {x y : Tx} : OB X (compareOp .NotEq) x y (!decide (x = y)) := ob_flat op_ne fun F H v u Q s r1 r2 q => by
  obtain rfl : v = .str (sx x) := r1
  obtain rfl : u = .str (sx y) := r2
  exact ⟨rfl, q _ (show V.bl _ = V.bl _ by rw [dec_sx])⟩
theorem o_neB {x y : Bool} : OB X (compareOp .NotEq) x y (!decide (x = y)) := ob_flat op_ne fun F H v u Q s r1 r2 q => by
  obtain rfl : v = .bl x := r1
  obtain rfl : u = .bl y := r2
  exact ⟨rfl, q _ (show V.bl _ = V.bl _ by rw [dec_bl, Bool.beq_eq_decide_eq])⟩
theorem o_eqB {x y : Bool} : OB X (compareOp .Eq) x y (decide (x = y)) := ob_flat op_eq fun F H v u Q s r1 r2 q => by
  obtain rfl : v = .bl x := r1
  obtain rfl : u = .bl y := r2
  exact ⟨rfl, q _ (show V.bl _ = V.bl _ by rw [dec_bl, Bool.beq_eq_decide_eq])⟩
theorem o_addS {x y : Tx} (h : x.length + y.length ≤ sizeLine) : OB X (binaryOp .Add) x y (x ++ y) := ob_flat op_add_str fun F H v u Q s r1 r2 q => by
  obtain rfl : v = .str (sx x) := r1
  obtain rfl : u = .str (sx y) := r2
  exact ⟨_, _, rfl, rfl, by rw [sx_len, sx_len]; exact h, q _ (by rw [sx_app]; rfl)⟩
theorem ev_neg {x : Int} (h : EV X Γ a x) : EV X Γ (.UnaryOp .USub a pos) (-x) := fun B F H σ Q L q =>
  WE.of (pe_un un_neg peW) (h B F H σ _ L fun v F1 H1 e1 r1 => ⟨x, r1, q _ F1 H1 e1 rfl⟩)

/-! ### and, or, not, if -/
theorem et_not {k : Bool} (h : ET X Γ a k) : ET X Γ (.UnaryOp .Not a pos) (!k) := fun B F H σ Q L q =>
  WT.of (pt_not ptW) (h B F H σ _ L fun F1 H1 e1 => q F1 H1 e1)
theorem ev_not {k : Bool} (h : EV X Γ a k) : EV X Γ (.UnaryOp .Not a pos) (!k) := fun B F H σ Q L q =>
  WE.of (pe_not peW) (h B F H σ _ L fun v F1 H1 e1 r1 => ⟨k, r1, q _ F1 H1 e1 rfl⟩)
/-- a test whatever its whole is -/
structure WW (X : Cx) (e : Expr) (σ : L2.St) (H : Hp) (Q : Bool → Hp → Prop) : Prop where
  go : ∀ whole pins s, Inv X pins σ H s → wpAny (model X.prog X.w) X.A (isTrue e X.env whole) (TP X pins σ Q) X.xe s
theorem pwW : PW X e (WW X e) := ⟨fun whole pins s _ _ _ I h => h.go whole pins s I⟩
def EW (X : Cx) (Γ : List Slot) (e : Expr) (k : Bool) : Prop := ∀ B F H σ Q, Lc X.K B F H σ Γ → (∀ F' H', Ext F H F' H' → Q k H') → WW X e σ H Q
theorem WW.of {t : TT} {σ : L2.St} {H : Hp} {Q : Bool → Hp → Prop} (p : PW X e t) (h : t σ H Q) : WW X e σ H Q := ⟨fun whole pins s I => p.run whole pins s σ H Q I h⟩
theorem et_w {k : Bool} (h : EW X Γ e k) : ET X Γ e k := fun B F H σ Q L q => WT.of (PW.pt pwW) (h B F H σ Q L q)
theorem ew_and1 {k : Bool} (h : ET X Γ a k) : EW X Γ (.BoolOp .And [a] pos) k := fun B F H σ Q L q => WW.of (pw_and1 ptW) (h B F H σ Q L q)
theorem ew_or1 {k : Bool} (h : ET X Γ a k) : EW X Γ (.BoolOp .Or [a] pos) k := fun B F H σ Q L q => WW.of (pw_or1 ptW) (h B F H σ Q L q)
theorem ew_and {k m : Bool} (ha : ET X Γ a k) (hb : k = true → EW X Γ (.BoolOp .And (b :: es) pos) m) : EW X Γ (.BoolOp .And (a :: b :: es) pos) (k && m) := fun B F H σ Q L q =>
  WW.of (pw_and ptW pwW) (ha B F H σ _ L fun F1 H1 e1 => by
    cases k with
    | true => exact hb rfl B F1 H1 σ Q (L.step e1) fun F2 H2 e2 => by rw [Bool.true_and] at q; exact q F2 H2 (e1.trans e2)
    | false => exact q F1 H1 e1)
theorem ew_or {k m : Bool} (ha : ET X Γ a k) (hb : k = false → EW X Γ (.BoolOp .Or (b :: es) pos) m) : EW X Γ (.BoolOp .Or (a :: b :: es) pos) (k || m) := fun B F H σ Q L q =>
  WW.of (pw_or ptW pwW) (ha B F H σ _ L fun F1 H1 e1 => by
    cases k with
    | false => exact hb rfl B F1 H1 σ Q (L.step e1) fun F2 H2 e2 => by rw [Bool.false_or] at q; exact q F2 H2 (e1.trans e2)
    | true => exact q F1 H1 e1)
theorem et_and {k m : Bool} (ha : ET X Γ a k) (hb : k = true → ET X Γ b m) : ET X Γ (.BoolOp .And [a, b] pos) (k && m) := et_w (ew_and ha fun h => ew_and1 (hb h))
theorem et_or {k m : Bool} (ha : ET X Γ a k) (hb : k = false → ET X Γ b m) : ET X Γ (.BoolOp .Or [a, b] pos) (k || m) := et_w (ew_or ha fun h => ew_or1 (hb h))
theorem et_and3 {k m n : Bool} (ha : ET X Γ a k) (hb : k = true → ET X Γ b m) (hc : k = true → m = true → ET X Γ c n) : ET X Γ (.BoolOp .And [a, b, c] pos) (k && (m && n)) := et_w (ew_and ha fun h => ew_and (hb h) fun h2 => ew_and1 (hc h h2))
theorem et_or3 {k m n : Bool} (ha : ET X Γ a k) (hb : k = false → ET X Γ b m) (hc : k = false → m = false → ET X Γ c n) : ET X Γ (.BoolOp .Or [a, b, c] pos) (k || (m || n)) := et_w (ew_or ha fun h => ew_or (hb h) fun h2 => ew_or1 (hc h h2))
/-- .. as values -/
theorem ev_one {op} {x : α} (h : EV X Γ a x) : EV X Γ (.BoolOp op [a] pos) x := fun B F H σ Q L q => WE.of (pe_one peW) (h B F H σ Q L q)
theorem ev_and {k m : Bool} (ha : EV X Γ a k) (hb : k = true → EV X Γ (.BoolOp .And (b :: es) pos) m) : EV X Γ (.BoolOp .And (a :: b :: es) pos) (k && m) := fun B F H σ Q L q =>
  WE.of (pe_and peW peW) (ha B F H σ _ L fun v F1 H1 e1 r1 => ⟨k, r1, by
    cases k with
    | true => exact hb rfl B F1 H1 σ Q (L.step e1) fun v F2 H2 e2 r2 => by rw [Bool.true_and] at q; exact q v F2 H2 (e1.trans e2) r2
    | false => exact q _ F1 H1 e1 rfl⟩)
theorem ev_or {k m : Bool} (ha : EV X Γ a k) (hb : k = false → EV X Γ (.BoolOp .Or (b :: es) pos) m) : EV X Γ (.BoolOp .Or (a :: b :: es) pos) (k || m) := fun B F H σ Q L q =>
  WE.of (pe_or peW peW) (ha B F H σ _ L fun v F1 H1 e1 r1 => ⟨k, r1, by
    cases k with
    | false => exact hb rfl B F1 H1 σ Q (L.step e1) fun v F2 H2 e2 r2 => by rw [Bool.false_or] at q; exact q v F2 H2 (e1.trans e2) r2
    | true => exact q _ F1 H1 e1 rfl⟩)
theorem ev_and2 {k m : Bool} (ha : EV X Γ a k) (hb : k = true → EV X Γ b m) : EV X Γ (.BoolOp .And [a, b] pos) (k && m) := ev_and ha fun h => ev_one (hb h)
theorem ev_or2 {k m : Bool} (ha : EV X Γ a k) (hb : k = false → EV X Γ b m) : EV X Γ (.BoolOp .Or [a, b] pos) (k || m) := ev_or ha fun h => ev_one (hb h)
theorem ev_ifExp {k : Bool} {x y : α} (hc : ET X Γ c k) (ha : k = true → EV X Γ a x) (hb : k = false → EV X Γ b y) : EV X Γ (.IfExp c a b pos) (if k then x else y) := fun B F H σ Q L q =>
  WE.of (pe_ifExp ptW peW peW) (hc B F H σ _ L fun F1 H1 e1 => by
    cases k with
    | true => exact ha rfl B F1 H1 σ Q (L.step e1) fun v F2 H2 e2 r2 => q v F2 H2 (e1.trans e2) r2
    | false => exact hb rfl B F1 H1 σ Q (L.step e1) fun v F2 H2 e2 r2 => q v F2 H2 (e1.trans e2) r2)

/-! ### arguments, displays -/
theorem ea_nil : EA X Γ [] [] := fun B F H σ Q L q => WA.of pa_nil (q [] F H (Ext.refl L.same) trivial)
theorem ea_cons {x : α} {A : List Slot} (h : EV X Γ e x) (hr : EA X Γ es A) (hs : starEach (e :: es) X.env = (false, eval e X.env) :: starEach es X.env := by exact star_of rfl) : EA X Γ (e :: es) (.val i x :: A) := fun B F H σ Q L q =>
  WA.of (pa_cons peW paW hs) (h B F H σ _ L fun v F1 H1 e1 r1 => hr B F1 H1 σ _ (L.step e1) fun vs F2 H2 e2 r2 => q (v :: vs) F2 H2 (e1.trans e2) ⟨i.mono e2.ff r1, r2⟩)
/-- like things in a row -/
def EAs (X : Cx) (Γ : List Slot) (es : List Expr) {α : Type} [i : Rep α] (xs : List α) : Prop :=
  ∀ B F H σ Q, Lc X.K B F H σ Γ → (∀ vs F' H', Ext F H F' H' → Paired (fun u x => i.rp X.K F' u x) vs xs → Q vs H') → WA X es σ H Q
theorem es_nil : EAs X Γ [] ([] : List α) := fun B F H σ Q L q => WA.of pa_nil (q [] F H (Ext.refl L.same) .nil)
theorem es_cons {x : α} {xs : List α} (h : EV X Γ e x) (hr : EAs X Γ es xs) (hs : starEach (e :: es) X.env = (false, eval e X.env) :: starEach es X.env := by exact star_of rfl) : EAs X Γ (e :: es) (x :: xs) := fun B F H σ Q L q =>
  WA.of (pa_cons peW paW hs) (h B F H σ _ L fun v F1 H1 e1 r1 => hr B F1 H1 σ _ (L.step e1) fun vs F2 H2 e2 r2 => q (v :: vs) F2 H2 (e1.trans e2) (.cons (i.mono e2.ff r1) r2))
theorem en_lst {xs : List α} (h : EAs X Γ es xs) (hz : xs.length ≤ sizeLine := by exact sl_small (by simp)) : EN X Γ (.List es pos) xs := fun B F H σ Q L q =>
  WE.of (pe_lst paW) (h B F H σ _ L fun vs F1 H1 e1 r1 => ⟨by rw [Paired.length r1]; exact hz, fun p hp => by
    have s1 := (L.step e1).same
    have ea := Ext.apart (o := .lst vs) s1 hp
    exact q p vs F1 _ (e1.trans ea) (e1.hs.free hp) (s1.free hp) upd_same r1⟩)
theorem ev_tupH {x1} {xs : List α} (h : EAs X Γ es xs) (hz : xs.length ≤ sizeLine := by exact sl_small (by simp)) : EV X Γ (.Tuple es x1 pos) (Tup.mk xs) := fun B F H σ Q L q =>
  WE.of (pe_tup paW) (h B F H σ _ L fun vs F1 H1 e1 r1 => ⟨by rw [Paired.length r1]; exact hz, fun p hp => by
    have s1 := (L.step e1).same
    have ea := Ext.new (o := .tup vs) s1 hp
    exact q (.ref p) _ _ (e1.trans ea) ⟨p, vs, rfl, upd_same, Paired.mapP r1 fun _ _ z => i.mono ea.ff z⟩⟩)
theorem ev_pair {x1} {x : α} {y : β} (ha : EV X Γ a x) (hb : EV X Γ b y) (hs : starEach [a, b] X.env = (false, eval a X.env) :: starEach [b] X.env := by exact star_of rfl) (hs2 : starEach [b] X.env = (false, eval b X.env) :: starEach [] X.env := by exact star_of rfl) : EV X Γ (.Tuple [a, b] x1 pos) (x, y) := fun B F H σ Q L q =>
  WE.of (pe_tup paW) (ea_cons ha (ea_cons hb ea_nil hs2) hs B F H σ _ L fun vs F1 H1 e1 r1 => by
    match vs, r1 with
    | [v, u], ⟨h1, h2, _⟩ =>
      exact ⟨by show 2 ≤ sizeLine; decide, fun p hp => by
        have s1 := (L.step e1).same
        have ea := Ext.new (o := .tup [v, u]) s1 hp
        exact q (.ref p) _ _ (e1.trans ea) ⟨p, v, u, rfl, upd_same, i.mono ea.ff h1, j.mono ea.ff h2⟩⟩)

/-! ### sequences -/
theorem sq_of {K : PySem.W.Frag} {F H : Hp} (s : Same F H) {a : Addr} {vs : List V} (h : F a = some (.lst vs)) : SqL K H a vs := .inl (.inl (s _ _ h))
theorem st_of {K : PySem.W.Frag} {F H : Hp} (s : Same F H) {a : Addr} {vs : List V} (h : F a = some (.tup vs)) : SqT K H a vs := .inl (.inl (s _ _ h))
/-- a call of a built-in with one argument -/
theorem ev_callB1 {n : Str} {id : String} {x : α} {z : β} {r : List V → Hp → VK → Prop} (hc : CallR X (.builtin id) r) (hm : X.mg n = none) (hv : bootBuiltins n = some (.builtin id)) (h : EV X Γ e x)
    (hr : ∀ F H v Q, Same F H → i.rp X.K F v x → (∀ w F' H', Ext F H F' H' → j.rp X.K F' w z → Q w H') → r [v] H Q) (hg : Gl X n := by rfl) (hn : n ≠ "__name__" := by decide) (hd : (n == ("__debug__" : Str)) = false := by decide)
    (hs : starEach [e] X.env = (false, eval e X.env) :: starEach [] X.env := by exact star_of rfl) (hpl : (backTo pos (starEach [] X.env)).any (·.1) = false := by exact pl_of rfl) : EV X Γ (.Call (.Name n p) [e] [] pos) z := fun B F H σ Q L q =>
  WE.of (pe_callB hc hg hm hv (pa_cons peW pa_nil hs) hn hd hs hpl) (h B F H σ _ L fun v F1 H1 e1 r1 => hr F1 H1 v Q (L.step e1).same r1 fun w F2 H2 e2 r2 => q w F2 H2 (e1.trans e2) r2)
theorem ev_callT1 {n : Str} {id : String} {x : α} {z : β} {r : List V → Hp → VK → Prop} (hc : CallR X (.type id) r) (hm : X.mg n = none) (hv : bootBuiltins n = some (.type id)) (h : EV X Γ e x)
    (hr : ∀ F H v Q, Same F H → i.rp X.K F v x → (∀ w F' H', Ext F H F' H' → j.rp X.K F' w z → Q w H') → r [v] H Q) (hg : Gl X n := by rfl) (hn : n ≠ "__name__" := by decide) (hd : (n == ("__debug__" : Str)) = false := by decide)
    (hs : starEach [e] X.env = (false, eval e X.env) :: starEach [] X.env := by exact star_of rfl) (hpl : (backTo pos (starEach [] X.env)).any (·.1) = false := by exact pl_of rfl) : EV X Γ (.Call (.Name n p) [e] [] pos) z := fun B F H σ Q L q =>
  WE.of (pe_callTy hc hg hm hv (pa_cons peW pa_nil hs) hn hd hs hpl) (h B F H σ _ L fun v F1 H1 e1 r1 => hr F1 H1 v Q (L.step e1).same r1 fun w F2 H2 e2 r2 => q w F2 H2 (e1.trans e2) r2)
theorem ev_len {xs : List α} (hm : X.mg "len" = none) (h : EV X Γ e xs) (hg : Gl X "len" := by rfl) (hs : starEach [e] X.env = (false, eval e X.env) :: starEach [] X.env := by exact star_of rfl) (hpl : (backTo pos (starEach [] X.env)).any (·.1) = false := by exact pl_of rfl) :
    EV X Γ (.Call (.Name "len" p) [e] [] pos) (xs.length : Int) :=
  ev_callB1 call_len_seq hm PySem.boot_len h (fun F H v Q s r q => by
    obtain ⟨a, vs, rfl, ha, pr⟩ := r
    exact ⟨a, vs, rfl, .inl (sq_of s ha), q _ F H (Ext.refl s) (by rw [Paired.length pr]; rfl)⟩) hg (by decide) (by decide) hs hpl
theorem ev_lenT {xs : Tup α} (hm : X.mg "len" = none) (h : EV X Γ e xs) (hg : Gl X "len" := by rfl) (hs : starEach [e] X.env = (false, eval e X.env) :: starEach [] X.env := by exact star_of rfl) (hpl : (backTo pos (starEach [] X.env)).any (·.1) = false := by exact pl_of rfl) :
    EV X Γ (.Call (.Name "len" p) [e] [] pos) (xs.l.length : Int) :=
  ev_callB1 call_len_seq hm PySem.boot_len h (fun F H v Q s r q => by
    obtain ⟨a, vs, rfl, ha, pr⟩ := r
    exact ⟨a, vs, rfl, .inr (st_of s ha), q _ F H (Ext.refl s) (by rw [Paired.length pr]; rfl)⟩) hg (by decide) (by decide) hs hpl
theorem ev_lenScr {xs : Scr} (hm : X.mg "len" = none) (h : EV X Γ e xs) (hg : Gl X "len" := by rfl) (hs : starEach [e] X.env = (false, eval e X.env) :: starEach [] X.env := by exact star_of rfl) (hpl : (backTo pos (starEach [] X.env)).any (·.1) = false := by exact pl_of rfl) :
    EV X Γ (.Call (.Name "len" p) [e] [] pos) (xs.l.length : Int) :=
  ev_callB1 call_len_seq hm PySem.boot_len h (fun F H v Q s r q => by
    obtain ⟨a, rfl, ha⟩ := r
    exact ⟨a, _, rfl, .inl (s.seq ha), q _ F H (Ext.refl s) (by rw [List.length_map]; rfl)⟩) hg (by decide) (by decide) hs hpl
theorem ev_lenS {x : Tx} (hm : X.mg "len" = none) (h : EV X Γ e x) (hz : x.length ≤ sizeLine) (hg : Gl X "len" := by rfl) (hs : starEach [e] X.env = (false, eval e X.env) :: starEach [] X.env := by exact star_of rfl) (hpl : (backTo pos (starEach [] X.env)).any (·.1) = false := by exact pl_of rfl) :
    EV X Γ (.Call (.Name "len" p) [e] [] pos) (x.length : Int) :=
  ev_callB1 call_len_str hm PySem.boot_len h (fun F H v Q s r q => ⟨sx x, by rw [show v = V.str (sx x) from r], by rw [sx_len]; exact hz, q _ F H (Ext.refl s) (by rw [sx_len]; rfl)⟩) hg (by decide) (by decide) hs hpl
theorem ev_ixL {xs : List α} {n : Int} {x : α} (ha : EV X Γ a xs) (hb : EV X Γ b n) (hx : atI xs n = some x) (hp : PlainIx b := by intro _ _; rfl) : EV X Γ (.Subscript a b pos) x := fun B F H σ Q L q =>
  WE.of (pe_ix ix_list peW peW hp) (ha B F H σ _ L fun v F1 H1 e1 r1 => hb B F1 H1 σ _ (L.step e1) fun u F2 H2 e2 r2 => by
    obtain ⟨ad, vs, rfl, h1, pr⟩ := r1
    obtain ⟨k, hk, hx⟩ := Option.bind_eq_some_iff.mp hx
    obtain ⟨w, hw, rw'⟩ := pgetL pr hx
    have s2 := (L.step (e1.trans e2)).same
    exact ⟨ad, vs, n, w, rfl, r2, sq_of s2 (e2.ff _ _ h1), by unfold atI; rw [Paired.length pr, hk]; exact hw, q w F2 H2 (e1.trans e2) (i.mono e2.ff rw')⟩)
theorem ev_ixT {xs : Tup α} {n : Int} {x : α} (ha : EV X Γ a xs) (hb : EV X Γ b n) (hx : atI xs.l n = some x) (hp : PlainIx b := by intro _ _; rfl) : EV X Γ (.Subscript a b pos) x := fun B F H σ Q L q =>
  WE.of (pe_ix ix_tup peW peW hp) (ha B F H σ _ L fun v F1 H1 e1 r1 => hb B F1 H1 σ _ (L.step e1) fun u F2 H2 e2 r2 => by
    obtain ⟨ad, vs, rfl, h1, pr⟩ := r1
    obtain ⟨k, hk, hx⟩ := Option.bind_eq_some_iff.mp hx
    obtain ⟨w, hw, rw'⟩ := pgetL pr hx
    have s2 := (L.step (e1.trans e2)).same
    exact ⟨ad, vs, n, w, rfl, r2, st_of s2 (e2.ff _ _ h1), by unfold atI; rw [Paired.length pr, hk]; exact hw, q w F2 H2 (e1.trans e2) (i.mono e2.ff rw')⟩)
theorem ev_ixScr {xs : Scr} {n : Int} {x : Int} (ha : EV X Γ a xs) (hb : EV X Γ b n) (hx : atI xs.l n = some x) (hp : PlainIx b := by intro _ _; rfl) : EV X Γ (.Subscript a b pos) x := fun B F H σ Q L q =>
  WE.of (pe_ix ix_list peW peW hp) (ha B F H σ _ L fun v F1 H1 e1 r1 => hb B F1 H1 σ _ (L.step e1) fun u F2 H2 e2 r2 => by
    obtain ⟨ad, rfl, h1⟩ := r1
    obtain ⟨k, hk, hx⟩ := Option.bind_eq_some_iff.mp hx
    have s2 := (L.step (e1.trans e2)).same
    exact ⟨ad, _, n, .int x, rfl, r2, s2.seq (e2.ff.seq h1), by unfold atI; rw [List.length_map, hk]; show (xs.l.map V.int)[k]? = _; rw [List.getElem?_map, hx]; rfl, q _ F2 H2 (e1.trans e2) rfl⟩)
theorem ev_ixS {x : Tx} {n : Int} {z : Nat} (ha : EV X Γ a x) (hb : EV X Γ b n) (hx : atI x n = some z) (hz : x.length ≤ sizeLine) (hp : PlainIx b := by intro _ _; rfl) : EV X Γ (.Subscript a b pos) ([z] : Tx) := fun B F H σ Q L q =>
  WE.of (pe_ix ix_str peW peW hp) (ha B F H σ _ L fun v F1 H1 e1 r1 => hb B F1 H1 σ _ (L.step e1) fun u F2 H2 e2 r2 =>
    ⟨sx x, n, z, r1, r2, by rw [sx_len]; exact hz, hx, q _ F2 H2 (e1.trans e2) rfl⟩)
/-- parts of a slice -/
def EO (X : Cx) (Γ : List Slot) (e : Option Expr) (o : Option Int) : Prop := match e, o with
  | none, none => True
  | some e, some n => EV X Γ e n
  | _, _ => False
def WO (X : Cx) (e : Option Expr) (Γ : List Slot) : TO := match e with
  | none => tNoPart
  | some e => tPart (WE X e)
theorem poW {e : Option Expr} : PO X e (WO X e Γ) := by
  cases e with
  | none => exact po_none
  | some e => exact po_some peW
theorem eo_run {e : Option Expr} {o : Option Int} (h : EO X Γ e o) {B : Bs} {F H : Hp} {σ : L2.St} {Q : Option Int → Hp → Prop} (L : Lc X.K B F H σ Γ) (q : ∀ F' H', Ext F H F' H' → Q o H') : WO X e Γ σ H Q := by
  cases e with
  | none =>
    cases o with
    | none => exact q F H (Ext.refl L.same)
    | some n => exact h.elim
  | some e =>
    cases o with
    | none => exact h.elim
    | some n => exact h B F H σ _ L fun v F1 H1 e1 r1 => ⟨n, r1, q F1 H1 e1⟩
def cutL {A : Type} (xs : List A) (lo hi : Option Int) : List A := (xs.drop (HT.sIx xs.length 0 lo)).take (HT.sIx xs.length xs.length hi - HT.sIx xs.length 0 lo)
theorem en_sliceL {p2 : Pos} {lo hi : Option Expr} {o1 o2 : Option Int} {xs : List α} (ha : EV X Γ a xs) (hl : EO X Γ lo o1) (hh : EO X Γ hi o2) : EN X Γ (.Subscript a (.Slice lo hi none p2) pos) (cutL xs o1 o2) := fun B F H σ Q L q =>
  WE.of (pe_slice sl_list peW (poW (Γ := Γ)) (poW (Γ := Γ))) (ha B F H σ _ L fun v F1 H1 e1 r1 => eo_run hl (L.step e1) fun F2 H2 e2 => eo_run hh (L.step (e1.trans e2)) fun F3 H3 e3 => by
    obtain ⟨ad, vs, rfl, h1, pr⟩ := r1
    have e123 := (e1.trans e2).trans e3
    have s3 := (L.step e123).same
    have e23 := e2.trans e3
    refine ⟨ad, vs, rfl, sq_of s3 (e23.ff _ _ h1), fun p hp => ?_⟩
    refine q p _ F3 _ (e123.trans (Ext.apart s3 hp)) (e123.hs.free hp) (s3.free hp) upd_same ?_
    unfold cutV cutL
    rw [Paired.length pr]
    exact ptake _ (pdrop _ (Paired.mapP pr fun _ _ z => i.mono e23.ff z)))
theorem ev_sliceS {p2 : Pos} {lo hi : Option Expr} {o1 o2 : Option Int} {x : Tx} (ha : EV X Γ a x) (hl : EO X Γ lo o1) (hh : EO X Γ hi o2) (hz : x.length ≤ sizeLine) : EV X Γ (.Subscript a (.Slice lo hi none p2) pos) (cutL x o1 o2) := fun B F H σ Q L q =>
  WE.of (pe_slice sl_str peW (poW (Γ := Γ)) (poW (Γ := Γ))) (ha B F H σ _ L fun v F1 H1 e1 r1 => eo_run hl (L.step e1) fun F2 H2 e2 => eo_run hh (L.step (e1.trans e2)) fun F3 H3 e3 =>
    ⟨sx x, r1, by rw [sx_len]; exact hz, q _ F3 H3 ((e1.trans e2).trans e3) (congrArg V.str (by
      unfold cutS cutL
      rw [sx_len]
      rfl))⟩)
end
end Tw

namespace Tw
open PySem PySem.Spec PyProof.Rows L2 TL

section
variable {X : Cx} {Γ : List Slot} {α β γ : Type} {i : Rep α} {j : Rep β} {l : Rep γ} {pos p : Pos} {e a b c : Expr} {es : List Expr} {E : SE} {rest body : List Stmt}

/-! ### small statements -/
theorem ED.seq {B : Bs} {F0 : Hp} {D : Ends} (ed : ED X B F0 E D) : ED X B F0 { E with nx := fun Γ' => ST X rest Γ' E } { D with nx := fun σ' H' => WP X rest D σ' H' } :=
  ⟨fun F H σ Γ s h L => h B F H σ D L (ed.weak s), ed.rt, ed.bk, ed.ct, ed.ex⟩
theorem st_nil (h : E.nx Γ) : ST X [] Γ E := fun B F H σ D L ed => WP.of pss_nil (ed.nx F H σ Γ (Same.refl F) h L)
theorem st_set (k : Nat) {n : Str} {x : α} (he : EV X Γ e x) (hr : ST X rest (Γ.set k (.val i x)) E) (hN : X.N.Nodup) (hi : X.N[k]? = some n := by rfl) (hx : L2.Loc X.env.scope n := by first | exact Or.inl rfl | exact Or.inr rfl)
    (hs : swapsWith e (some (.Name n p)) pos.line X.env = pure false := by rfl) (hf : X.fn n = true ∨ X.env.scope.names.lookup n = some .local := by first | exact .inl rfl | exact .inr rfl) : ST X (.Assign [.Name n p] e pos :: rest) Γ E := fun B F H σ D L ed =>
  WP.cons (ps_set hN hi hx peW hs hf) (he B F H σ _ L fun v F1 H1 e1 r1 => hr B F1 H1 _ D ((L.step e1).putV k r1) (ed.weak e1.ff))
theorem st_setN (k : Nat) {n : Str} {xs : List α} (he : EN X Γ e xs) (hr : ∀ ad, ST X rest (Γ.set k (.lst i ad xs)) E) (hN : X.N.Nodup) (hi : X.N[k]? = some n := by rfl) (hx : L2.Loc X.env.scope n := by first | exact Or.inl rfl | exact Or.inr rfl)
    (hs : swapsWith e (some (.Name n p)) pos.line X.env = pure false := by rfl) (hf : X.fn n = true ∨ X.env.scope.names.lookup n = some .local := by first | exact .inl rfl | exact .inr rfl) : ST X (.Assign [.Name n p] e pos :: rest) Γ E := fun B F H σ D L ed =>
  WP.cons (ps_set hN hi hx peW hs hf) (he B F H σ _ L fun ad vs F1 H1 e1 ha fa h1 pr => hr ad B F1 H1 _ D (L.putL k e1 ha fa h1 pr) (ed.weak e1.ff))
theorem st_ret {P : Ret → Prop} (he : EX X Γ e P) (hP : ∀ r, P r → E.rt r) : ST X (.Return (some e) pos :: rest) Γ E := fun B F H σ D L ed =>
  WP.cons (ps_ret peW) (he B F H σ _ L fun r v F1 H1 hr e1 ok => ed.rt r v F1 H1 (hP r hr) (L.step e1).ext (ok.imp fun b h => L.nw h))
theorem st_retV {x : α} (he : EV X Γ e x) (hP : E.rt (.val i x)) : ST X (.Return (some e) pos :: rest) Γ E := st_ret (P := fun r => r = .val i x) (ex_of_ev he rfl) fun r h => h ▸ hP
theorem st_retE {xs : List α} (he : EN X Γ e xs) (hP : E.rt (.new i xs)) : ST X (.Return (some e) pos :: rest) Γ E := st_ret (P := fun r => r = .new i xs) (ex_of_en he rfl) fun r h => h ▸ hP
/-- an own list is handed back -/
theorem st_retL (k : Nat) {n : Str} {ad : Addr} {xs : List α} (hP : E.rt (.new i xs)) (hN : X.N[k]? = some n := by rfl) (hv : Vis X.env.scope n := by first | exact Or.inl rfl | exact Or.inr (Or.inl rfl) | exact Or.inr (Or.inr rfl)) (hd : (n == ("__debug__" : Str)) = false := by decide)
    (hcd : (n == ("__classdict__" : Str)) = false := by decide) (hg : Γ[k]? = some (.lst i ad xs) := by rfl) : ST X (.Return (some (.Name n p)) pos :: rest) Γ E := fun B F H σ D L ed => by
  obtain ⟨vs, ea, fa, ba, ha, pr⟩ := slot_lst L hg
  exact WP.cons (ps_ret (pe_var hN hv hd hcd)) ⟨_, ea, ed.rt _ _ F H hP L.ext ⟨ad, vs, rfl, ba, fa, ha, pr⟩⟩
theorem st_retN (hP : E.rt (.val repUnit ())) : ST X (.Return none pos :: rest) Γ E := fun B F H σ D L ed => WP.cons ps_retN (ed.rt _ _ F H hP L.ext rfl)
theorem st_if {k : Bool} {A C : List Stmt} (hc : ET X Γ c k) (hA : k = true → ST X A Γ { E with nx := fun Γ' => ST X rest Γ' E }) (hC : k = false → ST X C Γ { E with nx := fun Γ' => ST X rest Γ' E }) : ST X (.If c A C pos :: rest) Γ E := fun B F H σ D L ed =>
  WP.cons (ps_if ptW psW psW) (hc B F H σ _ L fun F1 H1 e1 => by
    cases k with
    | true => exact hA rfl B F1 H1 σ _ (L.step e1) ((ed.weak e1.ff).seq)
    | false => exact hC rfl B F1 H1 σ _ (L.step e1) ((ed.weak e1.ff).seq))
theorem st_pass (hr : ST X rest Γ E) : ST X (.Pass pos :: rest) Γ E := fun B F H σ D L ed => WP.cons ps_pass (hr B F H σ D L ed)
theorem st_cont (h : E.ct Γ) : ST X (.Continue pos :: rest) Γ E := fun B F H σ D L ed => WP.cons ps_continue (ed.ct F H σ Γ (Same.refl F) h L)
theorem st_break (h : E.bk Γ) : ST X (.Break pos :: rest) Γ E := fun B F H σ D L ed => WP.cons ps_break (ed.bk F H σ Γ (Same.refl F) h L)
theorem st_doc {x k pos'} (hr : ST X rest Γ E) : ST X (.Expr (.Constant (.str x) k pos) pos' :: rest) Γ E := fun B F H σ D L ed => WP.cons ps_doc (hr B F H σ D L ed)
theorem st_drop {P : Ret → Prop} (he : EX X Γ e P) (hr : ST X rest Γ E) (hs : swapsWith e none pos.line X.env = pure false := by rfl) : ST X (.Expr e pos :: rest) Γ E := fun B F H σ D L ed =>
  WP.cons (ps_expr peW hs) (he B F H σ _ L fun r v F1 H1 _ e1 _ => hr B F1 H1 σ D (L.step e1) (ed.weak e1.ff))
/-- xs.append(e), xs an own list -/
theorem st_append (k : Nat) {n : Str} {ad : Addr} {xs : List α} {x : α} {apos cpos : Pos} (he : EV X Γ e x) (hr : ST X rest (Γ.set k (.lst i ad (xs ++ [x]))) E) (hz : xs.length < sizeLine) (hg : Γ[k]? = some (.lst i ad xs) := by rfl) (hN : X.N[k]? = some n := by rfl)
    (hv : Vis X.env.scope n := by first | exact Or.inl rfl | exact Or.inr (Or.inl rfl) | exact Or.inr (Or.inr rfl)) (hd : (n == ("__debug__" : Str)) = false := by decide) (hcd : (n == ("__classdict__" : Str)) = false := by decide)
    (hbase : attributeBase (.Name n p) "append" X.env (eval (.Name n p) X.env) = eval (.Name n p) X.env := by rfl)
    (hfew : ((backTo cpos (starEach [e] X.env)).all (fun x => !x.1) && (backToKw cpos (keywordEach [] X.env)).all (fun x => x.1.isSome) && decide ([e].length + ([] : List Keyword).length + (if ([] : List Keyword).isEmpty then 0 else 1) < 30)) = true := by rfl)
    (hline : (apos.endLine == cpos.line) = true := by rfl) (hs : starEach [e] X.env = (false, eval e X.env) :: starEach [] X.env := by exact star_of rfl) (hplain : (backTo cpos (starEach [] X.env)).any (·.1) = false := by rfl)
    (hsw : swapsWith (.Call (.Attribute (.Name n p) "append" apos) [e] [] cpos) none pos.line X.env = pure false := by rfl) :
    ST X (.Expr (.Call (.Attribute (.Name n p) "append" apos) [e] [] cpos) pos :: rest) Γ E := fun B F H σ D L ed => by
  obtain ⟨vs, ea, fa, ba, ha, pr⟩ := slot_lst L hg
  refine WP.cons (ps_expr (pe_bm PySem.F.plainAttrs_list PySem.F.slot_list_append PySem.F.type_list_append mt_append (pe_var hN hv hd hcd) (pa_cons peW pa_nil hs) hbase hfew hline hs hplain) hsw) ?_
  refine ⟨_, ea, .inl ⟨rfl, _, .inl (.inl ha)⟩, he B F H σ _ L fun v F1 H1 e1 r1 => ?_⟩
  have L1 := L.step e1
  obtain ⟨vs1, _, _, _, ha1, pr1⟩ := slot_lst L1 hg
  refine ⟨ad, vs1, v, rfl, rfl, ha1, by rw [Paired.length pr1]; exact hz, ?_⟩
  exact hr B F1 _ σ D (L1.updL hg (papp pr1 (.cons r1 .nil))) (ed.weak e1.ff)

/-! ### sources -/
/-- what an iterator gives: these things -/
def Yields (K : PySem.W.Frag) (J : It) (F1 : Hp) {α : Type} [i : Rep α] (xs : List α) : Prop :=
  ∀ F2 H2, Same F1 F2 → Same F2 H2 → (∀ (k : Nat) x, xs[k]? = some x → J.go k H2 ∧ ∀ v H3, J.yld k H2 v H3 → ∃ F3, Ext F2 H2 F3 H3 ∧ i.rp K F3 v x) ∧ J.stop xs.length H2
def Src (X : Cx) (Γ : List Slot) (tg it : Expr) {α : Type} [i : Rep α] (xs : List α) : Prop :=
  ∃ wi, PI X tg it wi ∧ ∀ B F H σ R, Lc X.K B F H σ Γ → (∀ J F1 H1, Ext F H F1 H1 → Yields X.K J F1 xs → R J H1) → wi σ H R
variable {tg it : Expr}
theorem src_list {xs : List α} (h : EV X Γ it xs) : Src X Γ tg it xs := ⟨_, pi_list peW, fun B F H σ R L q => h B F H σ _ L fun v F1 H1 e1 r1 => by
  obtain ⟨ad, vs, rfl, ha, pr⟩ := r1
  refine ⟨ad, rfl, ⟨vs, sq_of (L.step e1).same ha⟩, q _ F1 H1 e1 fun F2 H2 s1 s2 => ⟨fun k x hx => ?_, vs, sq_of s2 (s1 _ _ ha), by rw [Paired.length pr]; exact Nat.le_refl _⟩⟩
  obtain ⟨w, hw, rw'⟩ := pgetL pr hx
  refine ⟨⟨vs, w, sq_of s2 (s1 _ _ ha), hw⟩, fun v H3 hy => ?_⟩
  obtain ⟨rfl, hy⟩ := hy
  have : v = w := Option.some.inj ((hy vs (sq_of s2 (s1 _ _ ha))).symm.trans hw)
  subst this
  exact ⟨F2, Ext.refl s2, i.mono s1 rw'⟩⟩
theorem src_tup {xs : Tup α} (h : EV X Γ it xs) : Src X Γ tg it xs.l := ⟨_, pi_tup peW, fun B F H σ R L q => h B F H σ _ L fun v F1 H1 e1 r1 => by
  obtain ⟨ad, vs, rfl, ha, pr⟩ := r1
  refine ⟨ad, rfl, ⟨vs, st_of (L.step e1).same ha⟩, q _ F1 H1 e1 fun F2 H2 s1 s2 => ⟨fun k x hx => ?_, vs, st_of s2 (s1 _ _ ha), by rw [Paired.length pr]; exact Nat.le_refl _⟩⟩
  obtain ⟨w, hw, rw'⟩ := pgetL pr hx
  refine ⟨⟨vs, w, st_of s2 (s1 _ _ ha), hw⟩, fun v H3 hy => ?_⟩
  obtain ⟨rfl, hy⟩ := hy
  have : v = w := Option.some.inj ((hy vs (st_of s2 (s1 _ _ ha))).symm.trans hw)
  subst this
  exact ⟨F2, Ext.refl s2, i.mono s1 rw'⟩⟩
theorem src_rev {xs : List α} {p2 : Pos} (hm : X.mg "reversed" = none) (h : EV X Γ it xs) (hg : Gl X "reversed" := by rfl) (hs : starEach [it] X.env = [(false, eval it X.env)] := by exact star_of rfl) : Src X Γ tg (.Call (.Name "reversed" p) [it] [] p2) xs.reverse := ⟨_, pi_reversed hg hm (pa_cons peW pa_nil hs) hs, fun B F H σ R L q => h B F H σ _ L fun v F1 H1 e1 r1 => by
  obtain ⟨ad, vs, rfl, ha, pr⟩ := r1
  refine ⟨ad, vs, rfl, sq_of (L.step e1).same ha, q _ F1 H1 e1 fun F2 H2 s1 s2 => ⟨fun k x hx => ?_, by show vs.length ≤ _; rw [Paired.length pr, List.length_reverse]; exact Nat.le_refl _⟩⟩
  have hk : k < xs.length := by have := (List.getElem?_eq_some_iff.mp hx).1; simpa using this
  rw [List.getElem?_reverse hk] at hx
  obtain ⟨w, hw, rw'⟩ := pgetL pr hx
  rw [← Paired.length pr] at hw hk
  refine ⟨⟨hk, vs, w, sq_of s2 (s1 _ _ ha), hw⟩, fun v H3 hy => ?_⟩
  obtain ⟨rfl, hy⟩ := hy
  have : v = w := Option.some.inj ((hy vs (sq_of s2 (s1 _ _ ha))).symm.trans hw)
  subst this
  exact ⟨F2, Ext.refl s2, i.mono s1 rw'⟩⟩
theorem src_str {x : Tx} (h : EV X Γ it x) : Src X Γ tg it (x.map fun c => ([c] : Tx)) := ⟨_, pi_str peW, fun B F H σ R L q => h B F H σ _ L fun v F1 H1 e1 r1 => by
  obtain rfl : v = .str (sx x) := r1
  refine ⟨sx x, rfl, q _ F1 H1 e1 fun F2 H2 s1 s2 => ⟨fun k y hy => ?_, by show x.toArray.size ≤ _; simp⟩⟩
  have hk : k < x.length := by have := (List.getElem?_eq_some_iff.mp hy).1; simpa using this
  refine ⟨by show k < x.toArray.size; simpa using hk, fun v H3 hv => ?_⟩
  obtain ⟨rfl, c, hc, rfl⟩ := hv
  refine ⟨F2, Ext.refl s2, ?_⟩
  rw [List.getElem?_map] at hy
  have hc' : x[k]? = some c := by simpa [sx] using hc
  rw [hc'] at hy
  obtain rfl : ([c] : Tx) = y := Option.some.inj hy
  rfl⟩
def rng (lo : Int) (n : Nat) : List Int := (List.range n).map fun (k : Nat) => lo + (k : Int)
theorem rng_get {lo : Int} {n k : Nat} {x : Int} (h : (rng lo n)[k]? = some x) : k < n ∧ x = lo + k := by
  unfold rng at h
  rw [List.getElem?_map] at h
  by_cases hk : k < n
  · rw [List.getElem?_range hk] at h
    exact ⟨hk, (Option.some.inj h).symm⟩
  · rw [List.getElem?_eq_none (by simpa using hk)] at h; cases h
theorem rng_len {lo : Int} {n : Nat} : (rng lo n).length = n := by unfold rng; simp
theorem yields_rng {K : PySem.W.Frag} {F1 : Hp} {lo : Int} {n : Nat} : Yields K (Itr lo n) F1 (rng lo n) := fun F2 H2 s1 s2 => ⟨fun k x hx => by
  obtain ⟨hk, rfl⟩ := rng_get hx
  exact ⟨hk, fun v H3 hy => by obtain ⟨rfl, rfl⟩ := hy; exact ⟨F2, Ext.refl s2, rfl⟩⟩, by show n ≤ _; rw [rng_len]; exact Nat.le_refl _⟩
theorem src_range {n : Int} {p2 : Pos} (hm : X.mg "range" = none) (h : EV X Γ it n) (h1 : -(2 ^ 62) ≤ n) (h2 : n < 2 ^ 62) (hg : Gl X "range" := by rfl) (hs : starEach [it] X.env = [(false, eval it X.env)] := by exact star_of rfl) : Src X Γ tg (.Call (.Name "range" p) [it] [] p2) (rng 0 n.toNat) :=
  ⟨_, pi_range1 hg hm (pa_cons peW pa_nil hs) hs, fun B F H σ R L q => h B F H σ _ L fun v F1 H1 e1 r1 => by
    obtain rfl : v = .int n := r1
    exact ⟨n, rfl, h1, h2, q _ F1 H1 e1 yields_rng⟩⟩
theorem src_range2 {m n : Int} {p2 : Pos} (hm : X.mg "range" = none) (ha : EV X Γ a m) (hb : EV X Γ b n) (h : -(2 ^ 62) ≤ m ∧ m < 2 ^ 62 ∧ -(2 ^ 62) ≤ n ∧ n < 2 ^ 62) (hg : Gl X "range" := by rfl)
    (hs : starEach [a, b] X.env = [(false, eval a X.env), (false, eval b X.env)] := by exact star_of rfl) (hs2 : starEach [b] X.env = [(false, eval b X.env)] := by exact star_of rfl) : Src X Γ tg (.Call (.Name "range" p) [a, b] [] p2) (rng m (n - m).toNat) :=
  ⟨_, pi_range2 hg hm (pa_cons peW (pa_cons peW pa_nil hs2) (by rw [hs, hs2])) hs hs2, fun B F H σ R L q => ha B F H σ _ L fun v F1 H1 e1 r1 => hb B F1 H1 σ _ (L.step e1) fun u F2 H2 e2 r2 => by
    obtain rfl : v = .int m := r1
    obtain rfl : u = .int n := r2
    exact ⟨m, n, rfl, h, q _ F2 H2 (e1.trans e2) yields_rng⟩⟩

/-! ### targets -/
theorem wipe_get {σ : L2.St} {k : Nat} : ∀ vs : List Nat, (wipe σ vs)[k]? = if k ∈ vs then (σ[k]?).map (fun _ => none) else σ[k]?
  | [] => by simp [wipe]
  | v :: vs => by
    unfold wipe
    by_cases h : v = k
    · subst h
      rw [if_pos (List.mem_cons_self ..), List.getElem?_set]
      rw [if_pos rfl]
      by_cases hl : v < σ.length
      · rw [if_pos (by rw [wipe_length]; exact hl), List.getElem?_eq_getElem hl]; rfl
      · rw [if_neg (by rw [wipe_length]; exact hl), List.getElem?_eq_none (by omega)]; rfl
    · rw [List.getElem?_set_ne h, wipe_get vs]
      have : (k ∈ v :: vs) ↔ k ∈ vs := by simp [Ne.symm h]
      simp only [this]
theorem wipe_wipe (σ : L2.St) (vs : List Nat) : wipe (wipe σ vs) vs = wipe σ vs := by
  refine List.ext_getElem? fun k => ?_
  rw [wipe_get, wipe_get]
  split
  · cases σ[k]? <;> rfl
  · rfl
def wipeS (Γ : List Slot) : List Nat → List Slot
  | [] => Γ
  | v :: vs => (wipeS Γ vs).set v .no
theorem Lc.wipe {K : PySem.W.Frag} {B : Bs} {F H : Hp} {σ : L2.St} {Γ : List Slot} (L : Lc K B F H σ Γ) : ∀ vs : List Nat, Lc K B F H (L2.wipe σ vs) (wipeS Γ vs)
  | [] => L
  | v :: vs => (L.wipe vs).putN v none
/-- a target that is given x -/
structure Tg (K : PySem.W.Frag) (g : TG) {α : Type} [i : Rep α] (bind : α → List Slot → List Slot) (vs : List Nat) : Prop where
  run : ∀ B F H σ Γ v x Q, Lc K B F H σ Γ → i.rp K F v x → (∀ σ2, Lc K B F H σ2 (bind x Γ) → wipe σ2 vs = wipe σ vs → Q σ2 H) → g v σ H Q
theorem tg_name {K : PySem.W.Frag} (k : Nat) : Tg K (gName k) (fun (x : α) Γ => Γ.set k (.val i x)) [k] := ⟨fun B F H σ Γ v x Q L r q => q _ (L.putV k r) (by show (σ.set k (some v)).set k none = σ.set k none; rw [List.set_set])⟩
theorem tg_pair {K : PySem.W.Frag} (k m : Nat) (hkm : k ≠ m) : Tg K (gTup K 2 (gCons (gName k) (gCons (gName m) gNil))) (fun (x : α × β) Γ => (Γ.set k (.val i x.1)).set m (.val j x.2)) [k, m] := ⟨fun B F H σ Γ v x Q L r q => by
  obtain ⟨ad, u, w, rfl, ha, r1, r2⟩ := r
  refine ⟨ad, [u, w], rfl, st_of L.same ha, rfl, u, [w], rfl, w, [], rfl, rfl, q _ ((L.putV k r1).putV m r2) ?_⟩
  show ((((σ.set k (some u)).set m (some w)).set m none).set k none) = (σ.set m none).set k none
  rw [List.set_set, List.set_comm _ _ hkm, List.set_set]⟩

/-! ### loops -/
/-- for tg in it: body; P: what the places hold ahead of each turn -/
theorem st_for {xs : List α} {bind : α → List Slot → List Slot} {vs : List Nat} {g : TG} (P : Nat → List Slot → Prop) (hS : Src X Γ tg it xs) (hT : Tg X.K g bind vs) (h0 : P 0 Γ)
    (hb : ∀ (k : Nat) x Γ', xs[k]? = some x → P k Γ' → ST X body (bind x Γ') { nx := P (k + 1), ct := P (k + 1), bk := fun Γ2 => ST X rest Γ2 E, rt := E.rt, ex := E.ex })
    (hd : ∀ Γ', P xs.length Γ' → ST X rest Γ' E) (hg : PG X tg g) (hp : PassesOwn (model X.prog X.w) X.A X.env X.xe := by first | exact PassesOwn.never | exact L2.passes_of rfl | assumption) (hc : X.calm = true := by rfl) (hs : ∀ x, foldedSetIterable it X.env x = pure x := by intro _; rfl) :
    ST X (.For tg it body [] pos :: rest) Γ E := fun B F H σ D L ed => by
  obtain ⟨wi, hi, run⟩ := hS
  refine WP.cons (ps_for hp hc hi hg psW hs) (run B F H σ _ L fun J F1 H1 e1 Y => ?_)
  have L1 := L.step e1
  refine ⟨fun t m σ H => m = xs.length - t ∧ t ≤ xs.length ∧ ∃ F2 Γ', P t Γ' ∧ Same F1 F2 ∧ Lc X.K B F2 H σ Γ', ⟨xs.length, rfl, Nat.zero_le _, F1, Γ, h0, Same.refl _, L1⟩, ?_⟩
  rintro t m σ H ⟨rfl, ht, F2, Γ', hP, s12, L2⟩
  have Y2 := Y F2 H s12 L2.same
  by_cases hlt : t < xs.length
  · have hx : xs[t]? = some xs[t] := List.getElem?_eq_getElem hlt
    obtain ⟨go, yl⟩ := Y2.1 t _ hx
    refine .inr ⟨go, fun σ' H' => ∃ F3 Γ3, P (t + 1) Γ3 ∧ Same F1 F3 ∧ Lc X.K B F3 H' σ' Γ3, fun σ' H' h => ⟨xs.length - (t + 1), by omega, rfl, hlt, h⟩, fun v H3 hy => ?_⟩
    obtain ⟨F3, e3, r3⟩ := yl v H3 hy
    refine hT.run B F3 H3 σ Γ' v _ _ (L2.step e3) r3 fun σ2 L4 _ => ?_
    refine hb t _ Γ' hx hP B F3 H3 σ2 _ L4 ⟨fun F5 H5 σ5 Γ5 s5 h5 L5 => ?_, ed.rt, fun F5 H5 σ5 Γ5 s5 h5 L5 => h5 B F5 H5 σ5 D L5 (ed.weak (e1.ff.trans (s12.trans (e3.ff.trans s5)))), fun F5 H5 σ5 Γ5 s5 h5 L5 => ?_, fun F5 H5 σ5 Γ5 x u d s5 h5 L5 => ed.ex F5 H5 σ5 Γ5 x u d (e1.ff.trans (s12.trans (e3.ff.trans s5))) h5 L5⟩
    · exact ⟨F5, Γ5, h5, s12.trans (e3.ff.trans s5), L5⟩
    · exact ⟨F5, Γ5, h5, s12.trans (e3.ff.trans s5), L5⟩
  · have et : t = xs.length := by omega
    subst et
    exact .inl ⟨Y2.2, hd Γ' hP B F2 H σ D L2 (ed.weak (e1.ff.trans s12))⟩
end
end Tw

namespace Tw
open PySem PySem.Spec PyProof.Rows L2 TL

section
variable {X : Cx} {Γ : List Slot} {α β γ : Type} {i : Rep α} {j : Rep β} {l : Rep γ} {pos p : Pos} {e a b c elt tg it : Expr} {es : List Expr} {E : SE} {rest body : List Stmt}

/-! ### comprehensions -/
abbrev Blk (X : Cx) (scope : Scope) (s : Shared) (H : Hp) (C : Addr) (cl : List (Str × Addr)) (fp : List Addr) : Cx := X.blk s H scope (compEnvC scope cl C X.env) fp
def tBlkE (X : Cx) (scope : Scope) (e : Expr) : TE := fun σ H Q => ∀ s H0 C cl fp, WE (Blk X scope s H0 C cl fp) e σ H Q
def tBlkT (X : Cx) (scope : Scope) (e : Expr) : TT := fun σ H Q => ∀ s H0 C cl fp, WT (Blk X scope s H0 C cl fp) e σ H Q
theorem lc_run {scope : Scope} {xs : List α} {f : α → β} {q : α → Bool} {bind : α → List Slot → List Slot} {vs : List Nat} {g : TG} {tt : TT} {wi : TI} {B : Bs} {F H : Hp} {σ : L2.St} {Q : VK} (L : Lc X.K B F H σ Γ)
    (run : ∀ R, (∀ J F1 H1, Ext F H F1 H1 → Yields X.K J F1 xs → R J H1) → wi σ H R) (hT : Tg X.K g bind vs)
    (ht : ∀ x ∈ xs, ∀ B F H σ R, Lc X.K B F H σ (bind x (wipeS Γ vs)) → (∀ F' H', Ext F H F' H' → R (q x) H') → tt σ H R)
    (he : ∀ x ∈ xs, q x = true → ∀ s H C cl fp, EV (Blk X scope s H C cl fp) (bind x (wipeS Γ vs)) elt (f x)) (hz : xs.length ≤ sizeLine)
    (k : ∀ a vs F' H', Ext F H F' H' → H a = none → F' a = none → H' a = some (.lst vs) → Paired (fun u x => j.rp X.K F' u x) vs ((xs.filter q).map f) → Q (.ref a) H') : tLc wi g tt (tBlkE X scope elt) vs σ H Q := by
  refine run _ fun J F1 H1 e1 Y D hD => ?_
  have L1 := L.step e1
  refine ⟨fun t m H' => m = xs.length - t ∧ t ≤ xs.length ∧ ∃ F2 acc, Ext F1 H1 F2 H' ∧ F2 D = none ∧ H' D = some (.lst acc) ∧ acc.length ≤ t ∧ Paired (fun u x => j.rp X.K F2 u x) acc (((xs.take t).filter q).map f),
    ⟨xs.length, rfl, Nat.zero_le _, F1, [], Ext.apart L1.same hD, L1.same.free hD, upd_same, Nat.le_refl _, .nil⟩, ?_⟩
  rintro t m H2 ⟨rfl, ht', F2, acc, e2, fD, hD2, hl, pr⟩
  have Y2 := Y F2 H2 e2.ff e2.fh
  by_cases hlt : t < xs.length
  · have hx : xs[t]? = some xs[t] := List.getElem?_eq_getElem hlt
    have hmem : xs[t] ∈ xs := List.getElem_mem hlt
    obtain ⟨go, yl⟩ := Y2.1 t _ hx
    refine .inr ⟨go, fun H' => ∃ F3 acc, Ext F1 H1 F3 H' ∧ F3 D = none ∧ H' D = some (.lst acc) ∧ acc.length ≤ t + 1 ∧ Paired (fun u x => j.rp X.K F3 u x) acc (((xs.take (t + 1)).filter q).map f), fun H' h => ⟨xs.length - (t + 1), by omega, rfl, hlt, h⟩, fun v H3 hy => ?_⟩
    obtain ⟨F3, e3, r3⟩ := yl v H3 hy
    have L3 := ((L1.step e2).wipe vs).step e3
    refine hT.run B F3 H3 _ _ v _ _ L3 r3 fun σ2 L4 hw => ⟨by rw [hw, wipe_wipe], ?_⟩
    refine ht _ hmem B F3 H3 σ2 _ L4 fun F4 H4 e4 => ?_
    have e34 := e3.trans e4
    have fD4 : F4 D = none := e34.nw D fD (by rw [hD2]; exact fun z => nomatch z)
    have etake : xs.take (t + 1) = xs.take t ++ [xs[t]] := by rw [List.take_add_one, hx]; rfl
    by_cases hq : q xs[t] = true
    · rw [if_pos hq]
      intro s H0 C cl fp
      refine he _ hmem hq s H0 C cl fp B F4 H4 σ2 _ (L4.step e4) fun w F5 H5 e5 r5 => ?_
      have e345 := e34.trans e5
      have hD5 : H5 D = some (.lst acc) := e345.hs _ _ hD2
      have fD5 : F5 D = none := e345.nw D fD (by rw [hD2]; exact fun z => nomatch z)
      have e25 := e2.trans e345
      refine ⟨acc, hD5, by omega, F5, acc ++ [w], ⟨e25.ff, same_upd e25.fh fD5, fun b o nb ob => ?_, e25.nwM, fun _ z => z.elim⟩, fD5, upd_same, by simp; exact hl, ?_⟩
      · rw [upd_ne (ne_of_none ob hD)]; exact e25.hh b o nb ob
      · rw [etake, List.filter_append, List.map_append]
        have : ([xs[t]].filter q).map f = [f xs[t]] := by rw [List.filter_cons_of_pos hq]; rfl
        rw [this]
        exact papp (Paired.mapP pr fun _ _ z => j.mono e345.ff z) (.cons r5 .nil)
    · rw [if_neg hq]
      refine ⟨F4, acc, e2.trans e34, fD4, e34.hs _ _ hD2, by omega, ?_⟩
      rw [etake, List.filter_append, List.map_append]
      have : ([xs[t]].filter q).map f = [] := by rw [List.filter_cons_of_neg hq]; rfl
      rw [this, List.append_nil]
      exact Paired.mapP pr fun _ _ z => j.mono e34.ff z
  · have et : t = xs.length := by omega
    subst et
    refine .inl ⟨Y2.2, k D acc F2 H2 (e1.trans e2) (e1.hs.free hD) fD hD2 ?_⟩
    rw [List.take_length] at pr
    exact pr
theorem filter_yes {A : Type} (xs : List A) : xs.filter (fun _ => true) = xs := List.filter_eq_self.mpr fun _ _ => rfl
/-- [elt for tg in it] -/
theorem en_lc {scope : Scope} {own : List (Str × Nat)} {xs : List α} {f : α → β} {bind : α → List Slot → List Slot} {g : TG} (hS : Src X Γ tg it xs) (hT : Tg X.K g bind (own.map (·.2))) (hg : ∀ s H C cl fp, PG (Blk X scope s H C cl fp) tg g)
    (he : ∀ x ∈ xs, ∀ s H C cl fp, EV (Blk X scope s H C cl fp) (bind x (wipeS Γ (own.map (·.2)))) elt (f x)) (hN : X.N.Nodup) (ok : BlkOk X.N X.env.scope scope own := by exact blkOk_by (by decide +kernel)) (hz : xs.length ≤ sizeLine)
    (hc : X.calm = true := by rfl) (hs : ∀ x, foldedSetIterable it X.env x = pure x := by intro _; rfl) : EN X Γ (.ListComp elt [⟨tg, it, [], 0⟩] scope pos) (xs.map f) := fun B F H σ Q L k => by
  obtain ⟨wi, hi, run⟩ := hS
  refine WE.of (pe_lc (te := tBlkE X scope elt) hc hN hi ok hg (fun _ _ _ _ _ => pts_nil) (fun s H C cl fp => ⟨fun pins s' σ H' Q' I h => (h s H C cl fp).go pins s' I⟩) hs) ?_
  refine lc_run (q := fun _ => true) L (fun R => run B F H σ R L) hT (fun x _ B F H σ R L h => h F H (Ext.refl L.same)) (fun x hx _ => he x hx) hz fun a vs F' H' e1 ha fa h' pr => k a vs F' H' e1 ha fa h' ?_
  rw [filter_yes] at pr
  exact pr
/-- [elt for tg in it if c] -/
theorem en_lcIf {scope : Scope} {own : List (Str × Nat)} {xs : List α} {f : α → β} {q : α → Bool} {bind : α → List Slot → List Slot} {g : TG} (hS : Src X Γ tg it xs) (hT : Tg X.K g bind (own.map (·.2))) (hg : ∀ s H C cl fp, PG (Blk X scope s H C cl fp) tg g)
    (ht : ∀ x ∈ xs, ∀ s H C cl fp, ET (Blk X scope s H C cl fp) (bind x (wipeS Γ (own.map (·.2)))) c (q x))
    (he : ∀ x ∈ xs, q x = true → ∀ s H C cl fp, EV (Blk X scope s H C cl fp) (bind x (wipeS Γ (own.map (·.2)))) elt (f x)) (hN : X.N.Nodup) (ok : BlkOk X.N X.env.scope scope own := by exact blkOk_by (by decide +kernel)) (hz : xs.length ≤ sizeLine)
    (hc : X.calm = true := by rfl) (hs : ∀ x, foldedSetIterable it X.env x = pure x := by intro _; rfl) : EN X Γ (.ListComp elt [⟨tg, it, [c], 0⟩] scope pos) ((xs.filter q).map f) := fun B F H σ Q L k => by
  obtain ⟨wi, hi, run⟩ := hS
  refine WE.of (pe_lc (te := tBlkE X scope elt) (tt := tBlkT X scope c) hc hN hi ok hg (fun s H C cl fp => pts_one ⟨fun pins s' σ H' Q' I h => (h s H C cl fp).go pins s' I⟩) (fun s H C cl fp => ⟨fun pins s' σ H' Q' I h => (h s H C cl fp).go pins s' I⟩) hs) ?_
  exact lc_run L (fun R => run B F H σ R L) hT (fun x hx B F H σ R L h => fun s H0 C cl fp => ht x hx s H0 C cl fp B F H σ R L h) he hz k
/-- y = [elt for tg in it] -/
theorem st_setLc (m : Nat) {y : Str} {py spos : Pos} {scope : Scope} {own : List (Str × Nat)} {xs : List α} {f : α → β} {bind : α → List Slot → List Slot} {g : TG} (hS : Src X Γ tg it xs) (hT : Tg X.K g bind (own.map (·.2))) (hg : ∀ s H C cl fp, PG (Blk X scope s H C cl fp) tg g)
    (he : ∀ x ∈ xs, ∀ s H C cl fp, EV (Blk X scope s H C cl fp) (bind x (wipeS Γ (own.map (·.2)))) elt (f x)) (hN : X.N.Nodup) (hz : xs.length ≤ sizeLine) (hr : ∀ ad, ST X rest (Γ.set m (.lst j ad (xs.map f))) E)
    (ok : BlkOk X.N X.env.scope scope own := by exact blkOk_by (by decide +kernel)) (hy : X.N[m]? = some y := by rfl) (hyl : X.env.scope.names.lookup y = some .local := by rfl)
    (hsw : swapsWith (.ListComp elt [⟨tg, it, [], 0⟩] scope pos) (some (.Name y py)) spos.line X.env = pure true := by exact sw_true rfl rfl rfl (by decide +kernel))
    (hc : X.calm = true := by rfl) (hs : ∀ x, foldedSetIterable it X.env x = pure x := by intro _; rfl) : ST X (.Assign [.Name y py] (.ListComp elt [⟨tg, it, [], 0⟩] scope pos) spos :: rest) Γ E := fun B F H σ D L ed => by
  obtain ⟨wi, hi, run⟩ := hS
  refine WP.cons (ps_setLc (te := tBlkE X scope elt) hc hN hy hyl hsw hi ok hg (fun _ _ _ _ _ => pts_nil) (fun s H C cl fp => ⟨fun pins s' σ H' Q' I h => (h s H C cl fp).go pins s' I⟩) hs) ?_
  refine lc_run (q := fun _ => true) L (fun R => run B F H σ R L) hT (fun x _ B F H σ R L h => h F H (Ext.refl L.same)) (fun x hx _ => he x hx) hz fun a vs F' H' e1 ha fa h' pr => ?_
  rw [filter_yes] at pr
  exact hr a B F' H' _ D (L.putL m e1 ha fa h' pr) (ed.weak e1.ff)
theorem st_setLcIf (m : Nat) {y : Str} {py spos : Pos} {scope : Scope} {own : List (Str × Nat)} {xs : List α} {f : α → β} {q : α → Bool} {bind : α → List Slot → List Slot} {g : TG} (hS : Src X Γ tg it xs) (hT : Tg X.K g bind (own.map (·.2))) (hg : ∀ s H C cl fp, PG (Blk X scope s H C cl fp) tg g)
    (ht : ∀ x ∈ xs, ∀ s H C cl fp, ET (Blk X scope s H C cl fp) (bind x (wipeS Γ (own.map (·.2)))) c (q x))
    (he : ∀ x ∈ xs, q x = true → ∀ s H C cl fp, EV (Blk X scope s H C cl fp) (bind x (wipeS Γ (own.map (·.2)))) elt (f x)) (hN : X.N.Nodup) (hz : xs.length ≤ sizeLine) (hr : ∀ ad, ST X rest (Γ.set m (.lst j ad ((xs.filter q).map f))) E)
    (ok : BlkOk X.N X.env.scope scope own := by exact blkOk_by (by decide +kernel)) (hy : X.N[m]? = some y := by rfl) (hyl : X.env.scope.names.lookup y = some .local := by rfl)
    (hsw : swapsWith (.ListComp elt [⟨tg, it, [c], 0⟩] scope pos) (some (.Name y py)) spos.line X.env = pure true := by exact sw_true rfl rfl rfl (by decide +kernel))
    (hc : X.calm = true := by rfl) (hs : ∀ x, foldedSetIterable it X.env x = pure x := by intro _; rfl) : ST X (.Assign [.Name y py] (.ListComp elt [⟨tg, it, [c], 0⟩] scope pos) spos :: rest) Γ E := fun B F H σ D L ed => by
  obtain ⟨wi, hi, run⟩ := hS
  refine WP.cons (ps_setLc (te := tBlkE X scope elt) (tt := tBlkT X scope c) hc hN hy hyl hsw hi ok hg (fun s H C cl fp => pts_one ⟨fun pins s' σ H' Q' I h => (h s H C cl fp).go pins s' I⟩) (fun s H C cl fp => ⟨fun pins s' σ H' Q' I h => (h s H C cl fp).go pins s' I⟩) hs) ?_
  exact lc_run L (fun R => run B F H σ R L) hT (fun x hx B F H σ R L h => fun s H0 C cl fp => ht x hx s H0 C cl fp B F H σ R L h) he hz fun a vs F' H' e1 ha fa h' pr => hr a B F' H' _ D (L.putL m e1 ha fa h' pr) (ed.weak e1.ff)

/-! ### texts -/
theorem ev_join {o : Expr} {sep : Tx} {xs : List Tx} {apos : Pos} (ho : EV X Γ o sep) (h : EV X Γ e xs) (hz : (xs.map (·.length)).sum + xs.length * sep.length ≤ 16777216) (hs : starEach [e] X.env = [(false, eval e X.env)] := by exact star_of rfl)
    (hbase : attributeBase o "join" X.env (eval o X.env) = eval o X.env := by rfl) (hline : (apos.endLine == pos.line) = true := by rfl) : EV X Γ (.Call (.Attribute o "join" apos) [e] [] pos) (joinL sep xs) := fun B F H σ Q L q =>
  WE.of (pe_join peW peW hs hbase hline) (ho B F H σ _ L fun v F1 H1 e1 r1 => ⟨⟨_, r1⟩, h B F1 H1 σ _ (L.step e1) fun u F2 H2 e2 r2 => by
    obtain ⟨ad, vs, rfl, ha, pr⟩ := r2
    have s2 := (L.step (e1.trans e2)).same
    refine ⟨sx sep, ad, xs.map sx, r1, rfl, .inl (by rw [← Rps.strs pr]; exact sq_of s2 ha), ?_, q _ F2 H2 (e1.trans e2) (congrArg V.str ?_)⟩
    · rw [List.map_map, List.length_map, sx_len]
      have : ((fun y : Str => y.length) ∘ sx) = (fun x : Tx => x.length) := funext fun x => sx_len x
      rw [this]; exact hz
    · rw [join_eq]
      refine ext_tl ?_
      rw [tl_join, List.map_map]
      have : (tl ∘ sx) = (id : Tx → Tx) := funext fun x => tl_sx x
      rw [this, List.map_id]
      rfl⟩)
theorem joinL_one {x : Tx} : joinL [] (x.map fun c => ([c] : Tx)) = x := by
  have : ∀ (y : List Tx), joinL [] y = y.flatten := by
    intro y
    induction y with
    | nil => rfl
    | cons a r ih =>
      cases r with
      | nil => simp [joinL]
      | cons b r => rw [joinL, ih]; simp
  rw [this]
  induction x with
  | nil => rfl
  | cons a r ih => rw [List.map_cons, List.flatten_cons, ih]; rfl
theorem joinL_nil (y : List Tx) : joinL [] y = y.flatten := by
  induction y with
  | nil => rfl
  | cons a r ih =>
    cases r with
    | nil => simp [joinL]
    | cons b r => rw [joinL, ih]; simp
theorem ev_joinRev {o : Expr} {x : Tx} {apos pos2 : Pos} (hm : X.mg "reversed" = none) (ho : EV X Γ o ([] : Tx)) (h : EV X Γ e x) (hz : x.length ≤ 16777216) (hg : Gl X "reversed" := by rfl) (hc : X.calm = true := by rfl)
    (hs1 : starEach [.Call (.Name "reversed" p) [e] [] pos2] X.env = [(false, eval (.Call (.Name "reversed" p) [e] [] pos2) X.env)] := by exact star_of rfl) (hs : starEach [e] X.env = (false, eval e X.env) :: starEach [] X.env := by exact star_of rfl)
    (hbase : attributeBase o "join" X.env (eval o X.env) = eval o X.env := by rfl) (hline : (apos.endLine == pos.line) = true := by rfl) : EV X Γ (.Call (.Attribute o "join" apos) [.Call (.Name "reversed" p) [e] [] pos2] [] pos) (x.reverse) := fun B F H σ Q L q =>
  WE.of (pe_joinRev hc peW hg hm peW hs1 hs hbase hline) (ho B F H σ _ L fun v F1 H1 e1 r1 => ⟨⟨_, r1⟩, h B F1 H1 σ _ (L.step e1) fun u F2 H2 e2 r2 => by
    refine ⟨sx [], sx x, r1, r2, ?_, ?_, q _ F2 H2 (e1.trans e2) (congrArg V.str ?_)⟩
    · rw [sx_len]; exact Nat.le_trans hz (by decide)
    · rw [sx_len, sx_len]; show x.length + x.length * 0 ≤ _; omega
    · rw [join_eq]
      refine ext_tl ?_
      rw [tl_join, List.map_map]
      show joinL [] (x.reverse.map (tl ∘ RevS.one)) = _
      have : (tl ∘ RevS.one) = fun c => ([c] : Tx) := rfl
      rw [this, joinL_one]
      rfl⟩)

/-! ### list(xs) -/
theorem en_list {xs : List α} (hm : X.mg "list" = none) (h : EV X Γ e xs) (hg : Gl X "list" := by rfl) (hs : starEach [e] X.env = (false, eval e X.env) :: starEach [] X.env := by exact star_of rfl) (hpl : (backTo pos (starEach [] X.env)).any (·.1) = false := by exact pl_of rfl) :
    EN X Γ (.Call (.Name "list" p) [e] [] pos) xs := fun B F H σ Q L q =>
  WE.of (pe_callTy call_list_of hg hm (by decide +kernel) (pa_cons peW pa_nil hs) (by decide) (by decide) hs hpl) (h B F H σ _ L fun v F1 H1 e1 r1 => by
    obtain ⟨ad, vs, rfl, ha, pr⟩ := r1
    have s1 := (L.step e1).same
    exact ⟨ad, vs, rfl, .inl (sq_of s1 ha), fun q' hq => q q' vs F1 _ (e1.trans (Ext.apart s1 hq)) (e1.hs.free hq) (s1.free hq) upd_same pr⟩)

/-! ### what reads an own list without keeping it -/
class Flat (α : Type) [i : Rep α] : Prop where
  fl : ∀ {K F F' v} {x : α}, i.rp K F v x → i.rp K F' v x
instance : Flat Int := ⟨fun h => h⟩
instance : Flat Bool := ⟨fun h => h⟩
instance : Flat Unit := ⟨fun h => h⟩
instance : Flat (List Nat) := ⟨fun h => h⟩
/-- all of the places in ps frozen -/
def frz (F H : Hp) (ps : List Addr) : Hp := fun b => if b ∈ ps then H b else F b
theorem frz_in {F H : Hp} {ps : List Addr} {b : Addr} (h : b ∈ ps) : frz F H ps b = H b := if_pos h
theorem frz_out {F H : Hp} {ps : List Addr} {b : Addr} (h : b ∉ ps) : frz F H ps b = F b := if_neg h
theorem frz_le {F H : Hp} {ps : List Addr} (f : ∀ b ∈ ps, F b = none) : Same F (frz F H ps) := fun b u e => by
  rw [frz_out (fun hb => by rw [f b hb] at e; cases e)]; exact e
theorem frz_same {F H : Hp} {ps : List Addr} (s : Same F H) : Same (frz F H ps) H := fun b u e => by
  by_cases hb : b ∈ ps
  · rw [frz_in hb] at e; exact e
  · rw [frz_out hb] at e; exact s _ _ e
/-- an own thing that, frozen, is the data x -/
def Froz (o : Own) {α : Type} [i : Rep α] (x : α) : Prop := ∀ {K : PySem.W.Frag} {F H : Hp} {v : V}, Same F H → o.ok K F H v → (∀ b ∈ o.fp, F b = none) → i.rp K (frz F H o.fp) v x
theorem frozL {a : Addr} {xs : List α} : Froz (ownL i a xs) xs := fun {K F H v} s ⟨e, vs, h, p⟩ f => ⟨a, vs, e, (frz_in (ps := [a]) (List.mem_singleton.mpr rfl)).trans h, Paired.mapP p fun _ _ q => i.mono (frz_le f) q⟩
theorem Lc.lendO {K : PySem.W.Frag} {B : Bs} {F H : Hp} {σ : L2.St} {k : Nat} {o : Own} {x : α} (L : Lc K B F H σ Γ) (hk : Γ[k]? = some (.own o)) (hx : Froz o x) :
    Lc K ⟨frz F H o.fp, H, fun _ => True⟩ (frz F H o.fp) H σ (Γ.set k (.val i x)) ∧ ∀ b ∈ o.fp, F b = none := by
  obtain ⟨v, ev, ok, f⟩ := slot_own L hk
  have f0 : ∀ b ∈ o.fp, F b = none := fun b hb => (f b hb).1
  refine ⟨⟨⟨Same.refl _, frz_same L.same, fun _ _ n => absurd trivial n, fun _ _ h _ => h, fun _ _ h => h⟩, by simp [L.len], fun q t hq => ?_, L.ap.put k rfl⟩, f0⟩
  rcases get_set_slot hq with ⟨e1, e2, rfl⟩ | ⟨e1, hq'⟩
  · subst e1
    rw [ev]
    exact ⟨v, rfl, hx L.same ok f0⟩
  · have old := L.ok q t hq'
    cases t with
    | no => trivial
    | val i x => obtain ⟨v, e2, r⟩ := old; exact ⟨v, e2, i.mono (frz_le f0) r⟩
    | own o2 =>
      obtain ⟨u, eu, ok2, f2⟩ := old
      exact ⟨u, eu, o2.stay (frz_le f0) (fun _ _ _ h => h) ok2, fun b hb => ⟨by rw [frz_out (fun hb2 => L.ap k q o o2 e1 hk hq' b hb2 hb)]; exact (f2 b hb).1, .inr trivial⟩⟩
theorem Lc.lend {K : PySem.W.Frag} {B : Bs} {F H : Hp} {σ : L2.St} {k : Nat} {ad : Addr} {xs : List α} (L : Lc K B F H σ Γ) (hk : Γ[k]? = some (.lst i ad xs)) :
    Lc K ⟨frz F H [ad], H, fun _ => True⟩ (frz F H [ad]) H σ (Γ.set k (.val repList xs)) ∧ ∀ b ∈ [ad], F b = none := L.lendO hk frozL
theorem lend_back {F H F' H' : Hp} {ps : List Addr} (s : Same F H) (e : Ext (frz F H ps) H F' H') : Ext F H F H' := ⟨Same.refl F, s.trans e.hs, e.hh, fun _ _ h _ => h, fun _ z => z.elim⟩
theorem ev_lendO (k : Nat) {o : Own} {x : α} {y : β} [Flat β] (hx : Froz o x) (h : EV X (Γ.set k (.val i x)) e y) (hk : Γ[k]? = some (.own o) := by rfl) : EV X Γ e y := fun B F H σ Q L q => by
  obtain ⟨L', fa⟩ := L.lendO hk hx
  exact h _ _ H σ Q L' fun v F' H' ex r => q v F H' (lend_back L.same ex) (Flat.fl r)
theorem et_lendO (k : Nat) {o : Own} {x : α} {y : Bool} (hx : Froz o x) (h : ET X (Γ.set k (.val i x)) e y) (hk : Γ[k]? = some (.own o) := by rfl) : ET X Γ e y := fun B F H σ Q L q => by
  obtain ⟨L', fa⟩ := L.lendO hk hx
  exact h _ _ H σ Q L' fun F' H' ex => q F H' (lend_back L.same ex)
theorem en_lendO (k : Nat) {o : Own} {x : α} {ys : List β} [Flat β] (hx : Froz o x) (h : EN X (Γ.set k (.val i x)) e ys) (hk : Γ[k]? = some (.own o) := by rfl) : EN X Γ e ys := fun B F H σ Q L q => by
  obtain ⟨L', fa⟩ := L.lendO hk hx
  exact h _ _ H σ Q L' fun a vs F' H' ex ha f2 h' pr => q a vs F H' (lend_back L.same ex) ha (L.same.free ha) h' (Paired.mapP pr fun _ _ z => Flat.fl z)
theorem ev_lend (k : Nat) {ad : Addr} {xs : List α} {y : β} [Flat β] (h : EV X (Γ.set k (.val repList xs)) e y) (hk : Γ[k]? = some (.lst i ad xs) := by rfl) : EV X Γ e y := ev_lendO k frozL h hk
theorem et_lend (k : Nat) {ad : Addr} {xs : List α} {y : Bool} (h : ET X (Γ.set k (.val repList xs)) e y) (hk : Γ[k]? = some (.lst i ad xs) := by rfl) : ET X Γ e y := et_lendO k frozL h hk
theorem en_lend (k : Nat) {ad : Addr} {xs : List α} {ys : List β} [Flat β] (h : EN X (Γ.set k (.val repList xs)) e ys) (hk : Γ[k]? = some (.lst i ad xs) := by rfl) : EN X Γ e ys := en_lendO k frozL h hk

/-! ### calls of defs -/
theorem ex_call {n : Str} {k : Nat} {ps : List Str} {S : Spec} {A : List Slot} {P : Ret → Prop} (G : Has X.prog X.w X.K X.mg X.base k n ps S) (hr : Room k X.A) (ha : EA X Γ (e :: es) A)
    (hS : ∀ P' R', (∀ r, P r → P' r) → S A P' R') (hg : Gl X n := by rfl) (hd : (n == ("__debug__" : Str)) = false := by decide)
    (he : starEach (e :: es) X.env = (false, eval e X.env) :: starEach es X.env := by exact star_of rfl) (hpl : (backTo pos (starEach es X.env)).any (·.1) = false := by exact pl_of rfl) : EX X Γ (.Call (.Name n p) (e :: es) [] pos) P := fun B F H σ Q L q => by
  obtain ⟨f, fd, hm, hk, hb, G⟩ := G.ex
  refine WE.of (pe_call G hr hg hm hk hb .nil passL paW hd he hpl) (ha B F H σ _ L fun vs F1 H1 e1 r1 => ?_)
  rw [List.append_nil]
  exact ⟨F1, A, (L.step e1).same, r1.toO, r1.apart, hS _ _ fun r hr v F2 H2 e2 ok => q r v F2 H2 hr (e1.thenM e2 fun _ m => (r1.ma m).elim) (ok.imp fun b h => e1.hs.free (h.elim id fun m => (r1.ma m).elim))⟩
theorem ev_call {n : Str} {k : Nat} {ps : List Str} {S : Spec} {A : List Slot} {x : α} (G : Has X.prog X.w X.K X.mg X.base k n ps S) (hr : Room k X.A) (ha : EA X Γ (e :: es) A) (hS : ∀ P R, P (.val i x) → S A P R) (hg : Gl X n := by rfl) (hd : (n == ("__debug__" : Str)) = false := by decide)
    (he : starEach (e :: es) X.env = (false, eval e X.env) :: starEach es X.env := by exact star_of rfl) (hpl : (backTo pos (starEach es X.env)).any (·.1) = false := by exact pl_of rfl) : EV X Γ (.Call (.Name n p) (e :: es) [] pos) x :=
  ev_of_ex (ex_call G hr ha (fun P' R' h => hS P' R' (h _ rfl)) hg hd he hpl)
theorem en_call {n : Str} {k : Nat} {ps : List Str} {S : Spec} {A : List Slot} {xs : List α} (G : Has X.prog X.w X.K X.mg X.base k n ps S) (hr : Room k X.A) (ha : EA X Γ (e :: es) A) (hS : ∀ P R, P (.new i xs) → S A P R) (hg : Gl X n := by rfl) (hd : (n == ("__debug__" : Str)) = false := by decide)
    (he : starEach (e :: es) X.env = (false, eval e X.env) :: starEach es X.env := by exact star_of rfl) (hpl : (backTo pos (starEach es X.env)).any (·.1) = false := by exact pl_of rfl) : EN X Γ (.Call (.Name n p) (e :: es) [] pos) xs :=
  en_of_ex (ex_call G hr ha (fun P' R' h => hS P' R' (h _ rfl)) hg hd he hpl)
end

/-! ### defs -/
section
variable {P : Program} {w : World} {K : PySem.W.Frag} {mg : Str → Option Value} {base : Heap}
structure Df (K : PySem.W.Frag) (mg : Str → Option Value) (n : Str) (st : Stmt) (ps : List Str) : Prop where
  ex : ∃ f fd, Fun K n n st f fd ∧ Binds K fd ps [] ∧ mg n = some (.ref f)
/-- the places at the entry -/
theorem lc_start {F H : Hp} (s : Same F H) : ∀ {vs : List V} {A : List Slot} (r : VsOkO K F H vs A) (ap : Apart A) (n : Nat), Lc K ⟨F, H, MA A⟩ F H (vs.map some ++ List.replicate n none) (A ++ List.replicate n .no) := by
  intro vs A r ap n
  have key : ∀ {vs : List V} {A A0 : List Slot}, VsOkO K F H vs A → (∀ s ∈ A, s ∈ A0) → ∀ (k : Nat) t, (A ++ List.replicate n Slot.no)[k]? = some t → SlotOk K ⟨F, H, MA A0⟩ F H ((vs.map some ++ List.replicate n none)[k]?).join t := by
    intro vs A
    induction A generalizing vs with
    | nil =>
      intro A0 r _ k t h
      rw [List.nil_append, List.getElem?_replicate] at h
      split at h
      · cases h; exact trivial
      · cases h
    | cons a A ih =>
      intro A0 r hm k t h
      cases vs with
      | nil => cases a <;> exact r.elim
      | cons v vs =>
        cases a with
        | no => exact r.elim
        | own o =>
          cases k with
          | zero =>
            simp at h
            subst h
            exact ⟨v, rfl, r.1, fun b hb => ⟨r.2.1 b hb, .inr ⟨o, hm _ (List.mem_cons_self ..), hb⟩⟩⟩
          | succ k => exact ih r.2.2 (fun s hs => hm s (List.mem_cons_of_mem _ hs)) k t (by simpa using h)
        | val i x =>
          cases k with
          | zero =>
            simp at h
            subst h
            exact ⟨v, rfl, r.1⟩
          | succ k => exact ih r.2 (fun s hs => hm s (List.mem_cons_of_mem _ hs)) k t (by simpa using h)
  have inA : ∀ {k : Nat} {o : Own}, (A ++ List.replicate n Slot.no)[k]? = some (.own o) → A[k]? = some (.own o) := fun {k o} h => by
    by_cases hk : k < A.length
    · rw [List.getElem?_append_left hk] at h; exact h
    · rw [List.getElem?_append_right (by omega), List.getElem?_replicate] at h
      split at h <;> cases h
  exact ⟨⟨Same.refl _, s, fun _ _ _ h => h, fun _ _ h _ => h, fun _ _ h => h⟩, by simp [r.len], fun k t h => key r (fun _ h => h) k t h, fun x y o1 o2 hxy h1 h2 => ap x y o1 o2 hxy (inA h1) (inA h2)⟩
theorem Has.of {n : Str} {st : Stmt} {N ps : List Str} {k : Nat} {S : Spec} (D : Df K mg n st ps) (sc : FnScope N ps (defScope st)) (len : ∀ A Q R, S A Q R → A.length = ps.length)
    (body : ∀ (f : Addr) (cdv : Value) (A : Around) (outer : List Env) (s : Shared) (H : Hp) (E : XK), Room k (A.deeper (envOfC n (defScope st) s.heap.objs.size f cdv)) → ∀ Γ Q R, S Γ Q R →
      ST (cxOf (L2.CX P w) P w K mg base N n (defScope st) f cdv A outer s H E).nox (defBody st) (Γ ++ List.replicate (N.length - ps.length) .no) (fin Q)) :
    Has P w K mg base (k + 1) n ps S := by
  obtain ⟨f, fd, F, hb, hm⟩ := D.ex
  refine ⟨f, fd, hm, F.kp, hb, F.okX sc (fun vs H Q E ⟨F0, A, s, r, ap, h⟩ => ?_) (fun cdv A outer s H vs Q E hr h => ?_)⟩
  · rw [r.len]; exact len _ _ _ h
  · obtain ⟨F0, A0, sm, r, ap, h⟩ := h
    refine ⟨_, psW.nox, ?_⟩
    have hl := len _ _ _ h
    have L0 := lc_start (K := K) sm r ap (N.length - ps.length)
    have L1 : Lc K ⟨F0, H, MA A0⟩ F0 H (L2.start N vs) (A0 ++ List.replicate (N.length - ps.length) .no) := by
      unfold L2.start
      rw [show vs.length = ps.length from r.len.trans hl]
      exact L0
    refine body f cdv A outer s H E hr A0 _ _ h ⟨F0, H, MA A0⟩ F0 H _ _ L1 ⟨fun F' H' σ' Γ' _ hq L => ?_, fun r v F' H' hq ex ok => hq v F' H' ex ok, fun _ _ _ _ _ z => z.elim, fun _ _ _ _ _ z => z.elim, fun _ _ _ _ _ _ _ _ z => z.elim⟩
    exact hq .non F' H' L.ext rfl
end
end Tw

namespace Tw
open PySem PySem.Spec PyProof.Rows L2 TL

/-! ### data that may be compared -/
class Dat (α : Type) [i : Rep α] [DecidableEq α] where
  en : α → PyData
  ok : α → Prop
  dep : Nat
  dp : ∀ {K F v x}, i.rp K F v x → Dp K F v (en x)
  lay : ∀ {x}, ok x → (en x).canLay0 = true
  deep : ∀ x, (en x).depth ≤ dep
  eqv : ∀ x y, PyData.eqv (en x) (en y) = decide (x = y)
instance : Dat Int := ⟨.int, fun _ => True, 0, fun {_ _ v x} h => by obtain rfl : v = .int x := h; exact .int _, fun _ => by rw [PyData.canLay0], fun _ => by simp [PyData.depth], fun x y => by simp [PyData.eqv, Bool.beq_eq_decide_eq]⟩
instance : Dat Bool := ⟨.bool, fun _ => True, 0, fun {_ _ v x} h => by obtain rfl : v = .bl x := h; exact .bl _, fun _ => by rw [PyData.canLay0], fun _ => by simp [PyData.depth], fun x y => by simp [PyData.eqv, Bool.beq_eq_decide_eq]⟩
def TxOk (x : Tx) : Prop := ∀ c ∈ x, c < 1114112
instance : Dat (List Nat) := ⟨fun x => .str (sx x), TxOk, 0, fun {_ _ v x} h => by obtain rfl : v = .str (sx x) := h; exact .str _, fun {x} h => by
    rw [PyData.canLay0]
    show (sx x).cps.all (· < 0x110000) = true
    rw [Array.all_eq_true']
    intro c hc
    exact decide_eq_true (h c (by simpa [sx] using hc)), fun _ => by simp [PyData.depth], fun x y => by
    rw [PyData.eqv, Bool.beq_eq_decide_eq]
    by_cases h : x = y
    · subst h; rw [decide_eq_true rfl, decide_eq_true rfl]
    · rw [decide_eq_false h, decide_eq_false fun z => h (sx_inj z)]⟩
section
variable {α β : Type} [i : Rep α] [DecidableEq α] [d : Dat α] [j : Rep β] [DecidableEq β] [f : Dat β]
theorem dpAll {K : PySem.W.Frag} {F : Hp} : ∀ {vs : List V} {xs : List α}, Paired (fun u x => i.rp K F u x) vs xs → DpAll K F vs (xs.map d.en)
  | _, _, .nil => .nil
  | _, _, .cons r t => .cons (d.dp r) (dpAll t)
theorem layAll : ∀ {xs : List α}, (∀ x ∈ xs, d.ok x) → PyData.canLayAll0 (xs.map d.en) = true
  | [], _ => by rw [List.map_nil, PyData.canLayAll0]
  | x :: xs, h => by
    rw [List.map_cons, PyData.canLayAll0, d.lay (h x (List.mem_cons_self ..)), layAll fun y hy => h y (List.mem_cons_of_mem _ hy)]
    rfl
theorem deepAll : ∀ xs : List α, PyData.depthAll (xs.map d.en) ≤ d.dep
  | [] => by rw [List.map_nil, PyData.depthAll]; exact Nat.zero_le _
  | x :: xs => by rw [List.map_cons, PyData.depthAll]; exact Nat.max_le.mpr ⟨d.deep x, deepAll xs⟩
theorem eqvAll : ∀ xs ys : List α, PyData.eqvAll (xs.map d.en) (ys.map d.en) = decide (xs = ys)
  | [], [] => by rw [List.map_nil, PyData.eqvAll]; rfl
  | x :: xs, [] => by rw [List.map_cons, List.map_nil, PyData.eqvAll]; rfl
  | [], y :: ys => by rw [List.map_cons, List.map_nil, PyData.eqvAll]; rfl
  | x :: xs, y :: ys => by
    rw [List.map_cons, List.map_cons, PyData.eqvAll, d.eqv, eqvAll xs ys, ← Bool.decide_and]
    exact decide_eq_decide.mpr (by simp)
instance : Dat (List α) := ⟨fun xs => .list (xs.map d.en), fun xs => ∀ x ∈ xs, d.ok x, d.dep + 1, fun {K F v xs} ⟨a, vs, e, h, pr⟩ => by subst e; exact .lst (.inl (.inl h)) (dpAll pr), fun h => by rw [PyData.canLay0]; exact layAll h,
  fun xs => by rw [PyData.depth]; exact Nat.succ_le_succ (deepAll xs), fun xs ys => by rw [PyData.eqv]; exact eqvAll xs ys⟩
instance : DecidableEq (Tup α) := fun x y => decidable_of_iff (x.l = y.l) (by cases x; cases y; simp)
instance : Dat (Tup α) := ⟨fun xs => .tuple (xs.l.map d.en), fun xs => ∀ x ∈ xs.l, d.ok x, d.dep + 1, fun {K F v xs} ⟨a, vs, e, h, pr⟩ => by subst e; exact .tup (.inl (.inl h)) (dpAll pr), fun h => by rw [PyData.canLay0]; exact layAll h,
  fun xs => by rw [PyData.depth]; exact Nat.succ_le_succ (deepAll xs.l), fun xs ys => by
    rw [PyData.eqv, eqvAll]
    exact decide_eq_decide.mpr (by cases xs; cases ys; simp)⟩
instance : Dat (α × β) := ⟨fun x => .tuple [d.en x.1, f.en x.2], fun x => d.ok x.1 ∧ f.ok x.2, max d.dep f.dep + 1, fun {K F v x} ⟨a, u, w, e, h, r1, r2⟩ => by subst e; exact .tup (.inl (.inl h)) (.cons (d.dp r1) (.cons (f.dp r2) .nil)),
  fun {x} h => by rw [PyData.canLay0, PyData.canLayAll0, PyData.canLayAll0, PyData.canLayAll0, d.lay h.1, f.lay h.2]; rfl,
  fun x => by
    rw [PyData.depth, PyData.depthAll, PyData.depthAll, PyData.depthAll]
    have h1 := d.deep x.1
    have h2 := f.deep x.2
    omega, fun x y => by
    rw [PyData.eqv, PyData.eqvAll, PyData.eqvAll, PyData.eqvAll, d.eqv, f.eqv, Bool.and_true, ← Bool.decide_and]
    exact decide_eq_decide.mpr (by cases x; cases y; simp)⟩
theorem shp {x : α} (h : d.ok x) (h2 : d.dep ≤ 64) : SeqAt.shaped (d.en x) = true := by
  unfold SeqAt.shaped
  rw [d.lay h, decide_eq_true (Nat.le_trans (d.deep x) h2)]
  rfl
end
section
variable {α : Type} [i : Rep α] [DecidableEq α] [d : Dat α] {X : Cx}
theorem dp_mono {K : PySem.W.Frag} {F H : Hp} {v : V} {x : α} (s : Same F H) (r : i.rp K F v x) : Dp K H v (d.en x) := d.dp (i.mono s r)
theorem o_eqD {x y : α} {k : Nat} (hr : Room k X.A) (hx : d.ok x) (hy : d.ok y) (h2 : d.dep ≤ 64 := by decide) : OB X (compareOp .Eq) x y (decide (x = y)) := ob_flat (op_eqD hr.units) fun F H v u Q s r1 r2 q =>
  ⟨d.en x, d.en y, dp_mono s r1, dp_mono s r2, shp hx h2, shp hy h2, q _ (by rw [d.eqv]; rfl)⟩
theorem o_neD {x y : α} {k : Nat} (hr : Room k X.A) (hx : d.ok x) (hy : d.ok y) (h2 : d.dep ≤ 64 := by decide) : OB X (compareOp .NotEq) x y (!decide (x = y)) := ob_flat (op_neD hr.units) fun F H v u Q s r1 r2 q =>
  ⟨d.en x, d.en y, dp_mono s r1, dp_mono s r2, shp hx h2, shp hy h2, q _ (by rw [d.eqv]; rfl)⟩
end

/-! ### isinstance with a built-in class -/
class Ty (α : Type) [i : Rep α] where
  ty : String
  is : ∀ {K F H v} {x : α}, Same F H → i.rp K F v x → TyX K H v (.type ty)
instance : Ty Int := ⟨"int", fun {_ _ _ v x} _ h => by obtain rfl : v = .int x := h; exact .base (.int _)⟩
instance : Ty Bool := ⟨"bool", fun {_ _ _ v x} _ h => by obtain rfl : v = .bl x := h; exact .base (.bl _)⟩
instance : Ty (List Nat) := ⟨"str", fun {_ _ _ v x} _ h => by obtain rfl : v = .str (sx x) := h; exact .base (.str _)⟩
instance {α : Type} [i : Rep α] : Ty (List α) := ⟨"list", fun {_ _ _ v x} s h => by obtain ⟨a, vs, rfl, h, _⟩ := h; exact .base (.lst (s _ _ h))⟩
instance {α : Type} [i : Rep α] : Ty (Tup α) := ⟨"tuple", fun {_ _ _ v x} s h => by obtain ⟨a, vs, rfl, h, _⟩ := h; exact .base (.tup (s _ _ h))⟩
instance {α β : Type} [i : Rep α] [j : Rep β] : Ty (α × β) := ⟨"tuple", fun {_ _ _ v x} s h => by obtain ⟨a, u, w, rfl, h, _⟩ := h; exact .base (.tup (s _ _ h))⟩
section
variable {X : Cx} {Γ : List Slot} {α β γ : Type} {i : Rep α} {j : Rep β} {l : Rep γ} {pos p p2 : Pos} {e a b c elt tg it : Expr} {es : List Expr} {E : SE} {rest body : List Stmt}
theorem ev_isi {α : Type} [i : Rep α] [t : Ty α] {x : α} (T : String) (k : Bool) (hm : X.mg "isinstance" = none) (hmT : X.mg (Str.ofString T) = none) (h : EV X Γ e x) (hvT : bootBuiltins (Str.ofString T) = some (.type T) := by decide +kernel) (hk : kitB t.ty T = some k := by decide +kernel) (hg : Gl X "isinstance" := by rfl) (hgT : Gl X (Str.ofString T) := by rfl)
    (hnT : Str.ofString T ≠ "__name__" := by decide) (hdT : (Str.ofString T == ("__debug__" : Str)) = false := by decide)
    (hs : starEach [e, .Name (Str.ofString T) p2] X.env = (false, eval e X.env) :: starEach [.Name (Str.ofString T) p2] X.env := by exact star_of rfl) (hs2 : starEach [.Name (Str.ofString T) p2] X.env = (false, eval (.Name (Str.ofString T) p2) X.env) :: starEach [] X.env := by exact star_of rfl) (hpl : (backTo pos (starEach [.Name (Str.ofString T) p2] X.env)).any (·.1) = false := by exact pl_of rfl) :
    EV X Γ (.Call (.Name "isinstance" p) [e, .Name (Str.ofString T) p2] [] pos) k := fun B F H σ Q L q =>
  WE.of (pe_callB call_isi hg hm (by decide +kernel) (pa_cons peW (pa_cons (pe_bltn (v := .ty T) hgT hmT hvT rfl hnT hdT) pa_nil hs2) hs) (by decide) (by decide) hs hpl) (h B F H σ _ L fun v F1 H1 e1 r1 =>
    ⟨v, .ty T, .type t.ty, .type T, k, rfl, .ty T, t.is (L.step e1).same r1, kit_ty hk, q _ F1 H1 e1 rfl⟩)

/-! ### more statements -/
/-- a loop over an own list, which the body leaves -/
theorem st_forO (m : Nat) {n : Str} {ad : Addr} {xs : List α} {bind : α → List Slot → List Slot} {vs : List Nat} {g : TG} (P : Nat → List Slot → Prop) (hT : Tg X.K g bind vs) (h0 : P 0 Γ) (hown : ∀ k Γ', P k Γ' → Γ'[m]? = some (.lst i ad xs))
    (hb : ∀ (k : Nat) x Γ', xs[k]? = some x → P k Γ' → ST X body (bind x Γ') { nx := P (k + 1), ct := P (k + 1), bk := fun Γ2 => ST X rest Γ2 E, rt := E.rt, ex := E.ex })
    (hd : ∀ Γ', P xs.length Γ' → ST X rest Γ' E) (hg : PG X tg g) (hN : X.N[m]? = some n := by rfl)
    (hv : Vis X.env.scope n := by first | exact Or.inl rfl | exact Or.inr (Or.inl rfl) | exact Or.inr (Or.inr rfl)) (hdd : (n == ("__debug__" : Str)) = false := by decide) (hcd : (n == ("__classdict__" : Str)) = false := by decide)
    (hp : PassesOwn (model X.prog X.w) X.A X.env X.xe := by first | exact PassesOwn.never | exact L2.passes_of rfl | assumption) (hc : X.calm = true := by rfl) (hs : ∀ x, foldedSetIterable (.Name n p) X.env x = pure x := by intro _; rfl) :
    ST X (.For tg (.Name n p) body [] pos :: rest) Γ E := fun B F H σ D L ed => by
  obtain ⟨vs0, ea, _, _, ha, pr0⟩ := slot_lst L (hown 0 Γ h0)
  refine WP.cons (ps_for hp hc (pi_list (pe_var hN hv hdd hcd)) hg psW hs) ⟨_, ea, ad, rfl, ⟨vs0, .inl (.inl ha)⟩, fun t m σ H => m = xs.length - t ∧ t ≤ xs.length ∧ ∃ F2 Γ', P t Γ' ∧ Same F F2 ∧ Lc X.K B F2 H σ Γ', ⟨xs.length, rfl, Nat.zero_le _, F, Γ, h0, Same.refl _, L⟩, ?_⟩
  rintro t m σ H ⟨rfl, ht, F2, Γ', hP, s12, L2⟩
  obtain ⟨vs1, _, _, _, ha1, pr1⟩ := slot_lst L2 (hown t Γ' hP)
  have sq : SqL X.K H ad vs1 := .inl (.inl ha1)
  by_cases hlt : t < xs.length
  · have hx : xs[t]? = some xs[t] := List.getElem?_eq_getElem hlt
    obtain ⟨u, hu, ru⟩ := pgetL pr1 hx
    refine .inr ⟨⟨vs1, u, sq, hu⟩, fun σ' H' => ∃ F3 Γ3, P (t + 1) Γ3 ∧ Same F F3 ∧ Lc X.K B F3 H' σ' Γ3, fun σ' H' h => ⟨xs.length - (t + 1), by omega, rfl, hlt, h⟩, fun v H3 hy => ?_⟩
    obtain ⟨rfl, hy⟩ := hy
    have : v = u := Option.some.inj ((hy vs1 sq).symm.trans hu)
    subst this
    refine hT.run B F2 _ σ Γ' v _ _ L2 ru fun σ2 L4 _ => ?_
    refine hb t _ Γ' hx hP B F2 _ σ2 _ L4 ⟨fun F5 H5 σ5 Γ5 s5 h5 L5 => ?_, ed.rt, fun F5 H5 σ5 Γ5 s5 h5 L5 => h5 B F5 H5 σ5 D L5 (ed.weak (s12.trans s5)), fun F5 H5 σ5 Γ5 s5 h5 L5 => ?_, fun F5 H5 σ5 Γ5 x u d s5 h5 L5 => ed.ex F5 H5 σ5 Γ5 x u d (s12.trans s5) h5 L5⟩
    · exact ⟨F5, Γ5, h5, s12.trans s5, L5⟩
    · exact ⟨F5, Γ5, h5, s12.trans s5, L5⟩
  · have et : t = xs.length := by omega
    subst et
    exact .inl ⟨⟨vs1, sq, by rw [Paired.length pr1]; exact Nat.le_refl _⟩, hd Γ' hP B F2 H σ D L2 (ed.weak s12)⟩
/-- xs[n] = e, xs an own list -/
theorem st_setIx (m : Nat) {n : Str} {ad : Addr} {xs : List α} {x : α} {z : Int} {t : Nat} {sp : Pos} {sl : Expr} (he : EV X Γ e x) (hi : EV X Γ sl z) (hz : ixN xs.length z = some t) (hr : ST X rest (Γ.set m (.lst i ad (xs.set t x))) E) (hgm : Γ[m]? = some (.lst i ad xs) := by rfl) (hN : X.N[m]? = some n := by rfl)
    (hv : Vis X.env.scope n := by first | exact Or.inl rfl | exact Or.inr (Or.inl rfl) | exact Or.inr (Or.inr rfl)) (hdd : (n == ("__debug__" : Str)) = false := by decide) (hcd : (n == ("__classdict__" : Str)) = false := by decide)
    (hpg : ∀ v, assign (.Subscript (.Name n p) sl sp) X.env v = (do
      let ov ← holding [v] (eval (.Name n p) X.env)
      let iv ← holding [v, ov] (eval sl X.env)
      standAt sp
      holding [v, ov, iv] (setItem ov iv v)
      release [v, ov, iv] []) := by intro _; rfl)
    (hs : swapsWithSole [.Subscript (.Name n p) sl sp] e pos.line X.env = pure false := by rfl) (hw : swappedStores [.Subscript (.Name n p) sl sp] e X.env = pure none := by rfl)
    (h1 : (assignEach [.Subscript (.Name n p) sl sp] X.env).map (·.2) = [assign (.Subscript (.Name n p) sl sp) X.env] := by rfl) :
    ST X (.Assign [.Subscript (.Name n p) sl sp] e pos :: rest) Γ E := fun B F H σ D L ed => by
  obtain ⟨_, ea, _, _, _, _⟩ := slot_lst L hgm
  refine WP.cons (ps_asg peW (pg_sub (pe_var hN hv hdd hcd) peW set_list hpg) hs hw h1) (he B F H σ _ L fun v F1 H1 e1 r1 => ⟨_, ea, hi B F1 H1 σ _ (L.step e1) fun u F2 H2 e2 r2 => ?_⟩)
  have L2 := L.step (e1.trans e2)
  obtain ⟨vs, _, _, _, ha, pr⟩ := slot_lst L2 hgm
  exact ⟨ad, vs, z, t, rfl, r2, ha, by rw [Paired.length pr]; exact hz, hr B F2 _ σ D (L2.updL hgm (pset (i.mono e2.ff r1) t pr)) (ed.weak (e1.trans e2).ff)⟩
/-- targets = e, by a target's rule -/
theorem st_asg {x : α} {bind : α → List Slot → List Slot} {vs : List Nat} {g : TG} (he : EV X Γ e x) (hT : Tg X.K g bind vs) (hr : ST X rest (bind x Γ) E) (hg : PG X tg g) (hs : swapsWithSole [tg] e pos.line X.env = pure false := by rfl) (hw : swappedStores [tg] e X.env = pure none := by rfl)
    (h1 : (assignEach [tg] X.env).map (·.2) = [assign tg X.env] := by rfl) : ST X (.Assign [tg] e pos :: rest) Γ E := fun B F H σ D L ed =>
  WP.cons (ps_asg peW hg hs hw h1) (he B F H σ _ L fun v F1 H1 e1 r1 => hT.run B F1 H1 σ Γ v x _ (L.step e1) r1 fun σ2 L2 _ => hr B F1 H1 σ2 D L2 (ed.weak e1.ff))
/-- a, b = x, y with plain names -/
theorem st_par (k m : Nat) {n1 n2 : Str} {x : α} {y : β} {px py pt pt2 : Pos} {kt k2} (ha : EV X Γ a x) (hb : EV X Γ b y) (hr : ST X rest ((Γ.set k (.val i x)).set m (.val j y)) E) (hN : X.N.Nodup) (hkm : k ≠ m := by decide) (hc : X.calm = true := by rfl) (hi : X.N[k]? = some n1 := by rfl) (hj : X.N[m]? = some n2 := by rfl)
    (hx : X.env.scope.names.lookup n1 = some .local := by rfl) (hy : X.env.scope.names.lookup n2 = some .local := by rfl) (hs1 : starEach [a, b] X.env = (false, eval a X.env) :: starEach [b] X.env := by exact star_of rfl) (hs2 : starEach [b] X.env = (false, eval b X.env) :: starEach [] X.env := by exact star_of rfl)
    (hw : swappedStores [.Tuple [.Name n1 px, .Name n2 py] kt pt] (.Tuple [a, b] k2 pt2) X.env = pure (some [n1, n2]) := by rfl)
    (hs : swapsWithSole [.Tuple [.Name n1 px, .Name n2 py] kt pt] (.Tuple [a, b] k2 pt2) pos.line X.env = pure false := by rfl) :
    ST X (.Assign [.Tuple [.Name n1 px, .Name n2 py] kt pt] (.Tuple [a, b] k2 pt2) pos :: rest) Γ E := fun B F H σ D L ed =>
  WP.cons (ps_par hc hN hi hj hkm hx hy paW hw hs) (ea_cons ha (ea_cons hb ea_nil hs2) hs1 B F H σ _ L fun vs F1 H1 e1 r1 => by
    match vs, r1 with
    | [v, u], ⟨h1, h2, _⟩ => exact ⟨v, u, rfl, hr B F1 H1 _ D (((L.step e1).putV k h1).putV m h2) (ed.weak e1.ff)⟩)
/-- some places are forgotten -/
def Le (Γ Γ' : List Slot) : Prop := Γ.length = Γ'.length ∧ ∀ (k : Nat) s, Γ'[k]? = some s → s = .no ∨ Γ[k]? = some s
theorem Le.refl : Le Γ Γ := ⟨rfl, fun _ _ h => .inr h⟩
theorem le_nil : Le [] [] := ⟨rfl, fun _ _ h => .inr h⟩
theorem le_cons {s : Slot} {Γ Γ' : List Slot} (h : Le Γ Γ') : Le (s :: Γ) (s :: Γ') := ⟨by simp [h.1], fun k t e => by
  cases k with
  | zero => exact .inr e
  | succ k => exact h.2 k t (by simpa using e)⟩
theorem le_no {s : Slot} {Γ Γ' : List Slot} (h : Le Γ Γ') : Le (s :: Γ) (.no :: Γ') := ⟨by simp [h.1], fun k t e => by
  cases k with
  | zero => simp at e; exact .inl e.symm
  | succ k => exact h.2 k t (by simpa using e)⟩
theorem Le.trans {Γ Γ' Γ'' : List Slot} (h : Le Γ Γ') (h2 : Le Γ' Γ'') : Le Γ Γ'' := ⟨h.1.trans h2.1, fun k s e => by
  rcases h2.2 k s e with z | z
  · exact .inl z
  · exact h.2 k s z⟩
theorem Lc.le {K : PySem.W.Frag} {B : Bs} {F H : Hp} {σ : L2.St} {Γ Γ' : List Slot} (L : Lc K B F H σ Γ) (h : Le Γ Γ') : Lc K B F H σ Γ' :=
  ⟨L.ext, L.len.trans h.1, fun k s e => by
    rcases h.2 k s e with rfl | e
    · trivial
    · exact L.ok k s e, fun x y o1 o2 hxy h1 h2 => by
    rcases h.2 x _ h1 with z | h1
    · cases z
    rcases h.2 y _ h2 with z | h2
    · cases z
    exact L.ap x y o1 o2 hxy h1 h2⟩
theorem st_le {sts : List Stmt} {Γ Γ' : List Slot} (h : Le Γ Γ') (hs : ST X sts Γ' E) : ST X sts Γ E := fun B F H σ D L ed => hs B F H σ D (L.le h) ed
end
/-- the law: True for every script -/
def lawS : Spec := fun A P _ => ∃ s : Scr, A = [vl s] ∧ s.l.length ≤ 63 ∧ P (rv true)
theorem hCX0 (P : Program) (w : World) (H : Hp) (s : Shared) (e : Value) (s' : Shared) : L2.CX P w [] H s (fun _ _ _ => False) e s' → False := fun ⟨_, _, _, _, _, _, _, _, _, _, _, _, z⟩ => z
theorem law_sp (K : PySem.W.Frag) (H : Hp) (a : Addr) (ns : List Int) (hl : ns.length ≤ 63) (hS : SqL K H a (ns.map V.int)) : spOf K lawS [.ref a] H (fun v _ => v = .bl true) fun _ _ _ => False := by
  refine ⟨H, [vl (Scr.mk ns)], Same.refl H, ⟨⟨a, rfl, hS⟩, trivial⟩, fun i j o1 o2 _ h1 _ => ?_, ⟨ns⟩, rfl, hl, fun v F' H' _ ok => ok⟩
  have := List.mem_of_getElem? h1
  rw [List.mem_singleton] at this
  cases this

section
variable {P : Program} {w : World} {K : PySem.W.Frag} {mg : Str → Option Value} {base : Heap}
/-- a body does what the spec says, from any entry -/
def BodyOk (P : Program) (w : World) (K : PySem.W.Frag) (mg : Str → Option Value) (base : Heap) (k : Nat) (n : Str) (st : Stmt) (N ps : List Str) (S : Spec) : Prop :=
  ∀ (f : Addr) (cdv : Value) (A : Around) (outer : List Env) (s : Shared) (H : Hp) (E : XK), Room k (A.deeper (envOfC n (defScope st) s.heap.objs.size f cdv)) → ∀ Γ Q R, S Γ Q R →
      ST (cxOf (L2.CX P w) P w K mg base N n (defScope st) f cdv A outer s H E).nox (defBody st) (Γ ++ List.replicate (N.length - ps.length) .no) (fin Q)
theorem law_fn {f : Addr} {fd : FuncData} {st : Stmt} {N : List Str} {x : Str} {k : Nat} (F : Fun K "law" "law" st f fd) (sc : FnScope N [x] (defScope st)) (body : BodyOk P w K mg base k "law" st N [x] lawS) :
    FnOk P w K mg base (L2.CX P w) (k + 1) f fd [x] (spOf K lawS) := by
  refine F.okX sc (fun vs H Q E ⟨F0, A, s, r, ap, h⟩ => ?_) (fun cdv A outer s H vs Q E hr h => ?_)
  · obtain ⟨s, rfl, _⟩ := h
    rw [r.len]; rfl
  · obtain ⟨F0, A0, sm, r, ap, h⟩ := h
    refine ⟨_, psW.nox, ?_⟩
    have hl : A0.length = 1 := by obtain ⟨s, rfl, _⟩ := h; rfl
    have L0 := lc_start (K := K) sm r ap (N.length - 1)
    have L1 : Lc K ⟨F0, H, MA A0⟩ F0 H (L2.start N vs) (A0 ++ List.replicate (N.length - 1) .no) := by
      unfold L2.start
      rw [show vs.length = 1 from r.len.trans hl]
      exact L0
    refine body f cdv A outer s H E hr A0 _ _ h ⟨F0, H, MA A0⟩ F0 H _ _ L1 ⟨fun F' H' σ' Γ' _ hq L => ?_, fun r v F' H' hq ex ok => hq v F' H' ex ok, fun _ _ _ _ _ z => z.elim, fun _ _ _ _ _ z => z.elim, fun _ _ _ _ _ _ _ _ z => z.elim⟩
    exact hq .non F' H' L.ext rfl
end
theorem ev_gintE {X : Cx} {Γ : List Slot} {pos : Pos} {n : Str} {z : Int} (hm : ∃ t, X.mg n = some (.int z t)) (hg : Gl X n := by rfl) (hd : (n == ("__debug__" : Str)) = false := by decide) : EV X Γ (.Name n pos) z := by
  obtain ⟨t, hm⟩ := hm
  exact ev_gint hm hg hd
theorem ev_gstrE {X : Cx} {Γ : List Slot} {pos : Pos} {n : Str} {s : String} (hm : ∃ t, X.mg n = some (.str (Str.ofString s) t)) (hg : Gl X n := by rfl) (hd : (n == ("__debug__" : Str)) = false := by decide) : EV X Γ (.Name n pos) (tx s) := by
  obtain ⟨t, hm⟩ := hm
  exact ev_gstr s hm hg hd

theorem pgn {X : Cx} (k : Nat) {n : Str} {pos : Pos} (hN : X.N.Nodup) (hi : X.N[k]? = some n := by rfl) (hx : L2.Loc X.env.scope n := by first | exact Or.inl rfl | exact Or.inr rfl)
    (hf : X.fn n = true ∨ X.env.scope.names.lookup n = some .local := by first | exact .inl rfl | exact .inr rfl) : PG X (.Name n pos) (gName k) := pg_name hN hi hx hf
theorem Le.set {Γ Γ' : List Slot} (h : Le Γ Γ') (k : Nat) (s : Slot) : Le (Γ.set k s) (Γ'.set k s) := ⟨by simp [h.1], fun q t e => by
  rcases get_set_slot e with ⟨e1, e2, rfl⟩ | ⟨e1, e⟩
  · refine .inr ?_
    subst e1
    rw [List.getElem?_set_self (by rw [h.1]; exact e2)]
  · rcases h.2 q t e with z | z
    · exact .inl z
    · exact .inr (by rw [List.getElem?_set_ne e1]; exact z)⟩

theorem en_nil {X : Cx} {Γ : List Slot} {pos : Pos} (α : Type) [i : Rep α] : EN X Γ (.List [] pos) ([] : List α) := en_lst es_nil

theorem rng_get0 {n k : Nat} {x : Int} (h : (rng 0 n)[k]? = some x) : k < n ∧ x = (k : Int) := by
  obtain ⟨h1, h2⟩ := rng_get h
  exact ⟨h1, by rw [h2]; omega⟩
theorem rng_mem {lo : Int} {n : Nat} {x : Int} (h : x ∈ rng lo n) : ∃ k : Nat, k < n ∧ x = lo + k := by
  unfold rng at h
  obtain ⟨k, hk, rfl⟩ := List.mem_map.mp h
  exact ⟨k, List.mem_range.mp hk, rfl⟩
theorem joinOnes {A : Type} (xs : List A) (f : A → Nat) : joinL [] (xs.map fun x => ([f x] : Tx)) = xs.map f := by
  rw [show (fun x => ([f x] : Tx)) = (fun c => ([c] : Tx)) ∘ f from rfl, ← List.map_map, joinL_one]
theorem take_snoc {A : Type} {xs : List A} {k : Nat} {x : A} (h : xs[k]? = some x) : xs.take (k + 1) = xs.take k ++ [x] := by rw [List.take_add_one, h]; rfl
theorem lt_line {n : Nat} (h : n ≤ 1000) : n < sizeLine := Nat.lt_of_le_of_lt h (by decide)
theorem sum_ones {A : Type} (xs : List A) (f : A → Nat) : ((xs.map fun x => ([f x] : Tx)).map (·.length)).sum = xs.length := by
  rw [List.map_map, show (List.length ∘ fun x => ([f x] : Tx)) = fun _ => 1 from rfl, List.map_const', List.sum_replicate_nat]; omega
end Tw

namespace Tw
open PySem PySem.Spec PyProof.Rows L2 TL
section
variable {X : Cx} {Γ : List Slot} {α β γ δ : Type} {i : Rep α} {j : Rep β} {l : Rep γ} {m : Rep δ} {pos p p2 : Pos} {e a b c d elt tg it : Expr} {es : List Expr} {E : SE} {rest body : List Stmt}
/-- a < b < c < d, as a test -/
theorem et_chain3 {op1 op2 op3 : CmpOp} {x : α} {y : β} {z : γ} {t : δ} {k1 k2 k3 : Bool} (o1 : OB X (compareOp op1) x y k1) (o2 : k1 = true → OB X (compareOp op2) y z k2) (o3 : k1 = true → k2 = true → OB X (compareOp op3) z t k3)
    (ha : EV X Γ a x) (hb : EV X Γ b y) (hc : k1 = true → EV X Γ c z) (hd : k1 = true → k2 = true → EV X Γ d t) (hm : lastMarks [op1, op2, op3] [b, c, d] = false := by with_unfolding_all rfl) :
    ET X Γ (.Compare a [op1, op2, op3] [b, c, d] pos) (k1 && (k2 && k3)) := fun B F H σ Q L q => by
  refine ⟨fun pins s I => ?_⟩
  refine isTrue_chain (thn ((ha B F H σ (fun v H1 => ∃ F1, Ext F H F1 H1 ∧ i.rp X.K F1 v x) L (fun v F1 H1 e r => ⟨F1, e, r⟩)).go pins s I) fun va s1 ⟨v, H1, I1, rv1, F1, e1, r1⟩ => ?_) hm
  refine test_link (thn ((hb B F1 H1 σ (fun v H2 => ∃ F2, Ext F1 H1 F2 H2 ∧ j.rp X.K F2 v y) (L.step e1) (fun v F2 H2 e r => ⟨F2, e, r⟩)).go pins s1 I1) fun vb s2 ⟨u, H2, I2, rv2, F2, e2, r2⟩ => ?_)
  have L2 := L.step (e1.trans e2)
  refine thn (o1 F2 H2 v u (fun w H3 => ∃ F3, Ext F2 H2 F3 H3 ∧ w = .bl k1) L2.same (i.mono e2.ff r1) r2 (fun w F3 H3 e hw => ⟨F3, e, hw⟩) pins s2 σ va vb I2 rv1 rv2) fun c1 s3 ⟨w1, H3, I3, rw1, F3, e3, hw1⟩ => ?_
  subst hw1
  obtain rfl : c1 = Value.bool k1 := rw1
  refine wpAny_truthy_bool ?_
  have e123 := (e1.trans e2).trans e3
  cases k1 with
  | false => exact ite_ff ⟨H3, I3, q F3 H3 e123⟩
  | true =>
    refine ite_tt (test_link (thn ((hc rfl B F3 H3 σ (fun v H4 => ∃ F4, Ext F3 H3 F4 H4 ∧ l.rp X.K F4 v z) (L.step e123) (fun v F4 H4 e r => ⟨F4, e, r⟩)).go pins s3 I3) fun vc s4 ⟨t1, H4, I4, rv3, F4, e4, r4⟩ => ?_))
    have e1234 := e123.trans e4
    refine thn (o2 rfl F4 H4 u t1 (fun w H5 => ∃ F5, Ext F4 H4 F5 H5 ∧ w = .bl k2) (L.step e1234).same (j.mono (e3.trans e4).ff r2) r4 (fun w F5 H5 e hw => ⟨F5, e, hw⟩) pins s4 σ vb vc I4 rv2 rv3) fun c2 s5 ⟨w2, H5, I5, rw2, F5, e5, hw2⟩ => ?_
    subst hw2
    obtain rfl : c2 = Value.bool k2 := rw2
    refine wpAny_truthy_bool ?_
    have e5' := e1234.trans e5
    cases k2 with
    | false => exact ite_ff ⟨H5, I5, q F5 H5 e5'⟩
    | true =>
      refine ite_tt (test_last (thn ((hd rfl rfl B F5 H5 σ (fun v H6 => ∃ F6, Ext F5 H5 F6 H6 ∧ m.rp X.K F6 v t) (L.step e5') (fun v F6 H6 e r => ⟨F6, e, r⟩)).go pins s5 I5) fun vd s6 ⟨t2, H6, I6, rv4, F6, e6, r6⟩ => ?_))
      have e6' := e5'.trans e6
      refine thn (o3 rfl rfl F6 H6 t1 t2 (fun w H7 => ∃ F7, Ext F6 H6 F7 H7 ∧ w = .bl k3) (L.step e6').same (l.mono (e5.trans e6).ff r4) r6 (fun w F7 H7 e hw => ⟨F7, e, hw⟩) pins s6 σ vc vd I6 rv3 rv4) fun c3 s7 ⟨w3, H7, I7, rw3, F7, e7, hw3⟩ => ?_
      subst hw3
      obtain rfl : c3 = Value.bool k3 := rw3
      exact wpAny_truthy_bool ⟨H7, I7, q F7 H7 (e6'.trans e7)⟩
theorem ev_all {bs : List Bool} (hm : X.mg "all" = none) (h : EV X Γ e bs) (hc : X.calm = true := by rfl) (hg : Gl X "all" := by rfl) (hs : starEach [e] X.env = (false, eval e X.env) :: starEach [] X.env := by exact star_of rfl) (hpl : (backTo pos (starEach [] X.env)).any (·.1) = false := by exact pl_of rfl) :
    EV X Γ (.Call (.Name "all" p) [e] [] pos) (bs.all id) :=
  ev_callB1 (cr_all hc) hm (by decide +kernel) h (fun F H v Q s r q => by
    obtain ⟨ad, vs, rfl, ha, pr⟩ := r
    exact ⟨ad, bs, rfl, by rw [← Rps.bls pr]; exact sq_of s ha, q _ F H (Ext.refl s) rfl⟩) hg (by decide) (by decide) hs hpl
theorem ev_any {bs : List Bool} (hm : X.mg "any" = none) (h : EV X Γ e bs) (hc : X.calm = true := by rfl) (hg : Gl X "any" := by rfl) (hs : starEach [e] X.env = (false, eval e X.env) :: starEach [] X.env := by exact star_of rfl) (hpl : (backTo pos (starEach [] X.env)).any (·.1) = false := by exact pl_of rfl) :
    EV X Γ (.Call (.Name "any" p) [e] [] pos) (bs.any id) :=
  ev_callB1 (cr_any hc) hm (by decide +kernel) h (fun F H v Q s r q => by
    obtain ⟨ad, vs, rfl, ha, pr⟩ := r
    exact ⟨ad, bs, rfl, by rw [← Rps.bls pr]; exact sq_of s ha, q _ F H (Ext.refl s) rfl⟩) hg (by decide) (by decide) hs hpl
theorem ev_sum {ns : List Int} (hm : X.mg "sum" = none) (h : EV X Γ e ns) (hc : X.calm = true := by rfl) (hg : Gl X "sum" := by rfl) (hs : starEach [e] X.env = (false, eval e X.env) :: starEach [] X.env := by exact star_of rfl) (hpl : (backTo pos (starEach [] X.env)).any (·.1) = false := by exact pl_of rfl) :
    EV X Γ (.Call (.Name "sum" p) [e] [] pos) ns.sum :=
  ev_callB1 (cr_sum hc) hm (by decide +kernel) h (fun F H v Q s r q => by
    obtain ⟨ad, vs, rfl, ha, pr⟩ := r
    exact ⟨ad, ns, rfl, by rw [← Rps.ints pr]; exact sq_of s ha, q _ F H (Ext.refl s) rfl⟩) hg (by decide) (by decide) hs hpl
theorem o_ltT {x y : Tup Int} {k : Nat} (hr : Room k X.A) : OB X (compareOp .Lt) x y (HT.lexLt x.l y.l) := ob_flat (op_ltT hr.units0) fun F H v u Q s r1 r2 q => by
  obtain ⟨a1, vs, rfl, h1, p1⟩ := r1
  obtain ⟨a2, ws, rfl, h2, p2⟩ := r2
  exact ⟨a1, a2, x.l, y.l, rfl, rfl, by rw [← Rps.ints p1]; exact st_of s h1, by rw [← Rps.ints p2]; exact st_of s h2, q _ rfl⟩
/-- a, b, c, d = e, a tuple of four like things -/
theorem st_unpack4 (k1 k2 k3 k4 : Nat) {n1 n2 n3 n4 : Str} {x1 x2 x3 x4 : α} {q1 q2 q3 q4 tp : Pos} {kk} (he : EV X Γ e (Tup.mk [x1, x2, x3, x4])) (hr : ST X rest ((((Γ.set k1 (.val i x1)).set k2 (.val i x2)).set k3 (.val i x3)).set k4 (.val i x4)) E)
    (hg : PG X (.Tuple [.Name n1 q1, .Name n2 q2, .Name n3 q3, .Name n4 q4] kk tp) (gTup X.K 4 (gCons (gName k1) (gCons (gName k2) (gCons (gName k3) (gCons (gName k4) gNil))))))
    (hs : swapsWithSole [.Tuple [.Name n1 q1, .Name n2 q2, .Name n3 q3, .Name n4 q4] kk tp] e pos.line X.env = pure false := by rfl) (hw : swappedStores [.Tuple [.Name n1 q1, .Name n2 q2, .Name n3 q3, .Name n4 q4] kk tp] e X.env = pure none := by rfl)
    (h1 : (assignEach [.Tuple [.Name n1 q1, .Name n2 q2, .Name n3 q3, .Name n4 q4] kk tp] X.env).map (·.2) = [assign (.Tuple [.Name n1 q1, .Name n2 q2, .Name n3 q3, .Name n4 q4] kk tp) X.env] := by rfl) :
    ST X (.Assign [.Tuple [.Name n1 q1, .Name n2 q2, .Name n3 q3, .Name n4 q4] kk tp] e pos :: rest) Γ E := fun B F H σ D L ed =>
  WP.cons (ps_asg peW hg hs hw h1) (he B F H σ _ L fun v F1 H1 e1 r1 => by
    obtain ⟨ad, vs, rfl, ha, pr⟩ := r1
    have L1 := L.step e1
    match vs, pr with
    | [v1, v2, v3, v4], .cons p1 (.cons p2 (.cons p3 (.cons p4 .nil))) =>
      exact ⟨ad, _, rfl, st_of L1.same ha, rfl, v1, _, rfl, v2, _, rfl, v3, _, rfl, v4, _, rfl, rfl, hr B F1 H1 _ D ((((L1.putV k1 p1).putV k2 p2).putV k3 p3).putV k4 p4) (ed.weak e1.ff)⟩)
theorem pg4 (k1 k2 k3 k4 : Nat) {n1 n2 n3 n4 : Str} {q1 q2 q3 q4 tp : Pos} {kk} (hN : X.N.Nodup) (hc : X.calm = true := by rfl) (h1 : PG X (.Name n1 q1) (gName k1)) (h2 : PG X (.Name n2 q2) (gName k2)) (h3 : PG X (.Name n3 q3) (gName k3)) (h4 : PG X (.Name n4 q4) (gName k4))
    (a1 : (assignEach [.Name n1 q1, .Name n2 q2, .Name n3 q3, .Name n4 q4] X.env).map (·.2) = assign (.Name n1 q1) X.env :: (assignEach [.Name n2 q2, .Name n3 q3, .Name n4 q4] X.env).map (·.2) := by rfl)
    (a2 : (assignEach [.Name n2 q2, .Name n3 q3, .Name n4 q4] X.env).map (·.2) = assign (.Name n2 q2) X.env :: (assignEach [.Name n3 q3, .Name n4 q4] X.env).map (·.2) := by rfl)
    (a3 : (assignEach [.Name n3 q3, .Name n4 q4] X.env).map (·.2) = assign (.Name n3 q3) X.env :: (assignEach [.Name n4 q4] X.env).map (·.2) := by rfl)
    (a4 : (assignEach [.Name n4 q4] X.env).map (·.2) = assign (.Name n4 q4) X.env :: (assignEach [] X.env).map (·.2) := by rfl)
    (hn : (assignEach [.Name n1 q1, .Name n2 q2, .Name n3 q3, .Name n4 q4] X.env).length = 4 := by rfl) (hst : (assignEach [.Name n1 q1, .Name n2 q2, .Name n3 q3, .Name n4 q4] X.env).findIdx? (·.1) = none := by rfl) :
    PG X (.Tuple [.Name n1 q1, .Name n2 q2, .Name n3 q3, .Name n4 q4] kk tp) (gTup X.K 4 (gCons (gName k1) (gCons (gName k2) (gCons (gName k3) (gCons (gName k4) gNil))))) :=
  pg_tup hc (pgs_cons h1 (pgs_cons h2 (pgs_cons h3 (pgs_cons h4 pgs_nil a4) a3) a2) a1) hn hst
theorem pg2 (k1 k2 : Nat) {n1 n2 : Str} {q1 q2 tp : Pos} {kk} (h1 : PG X (.Name n1 q1) (gName k1)) (h2 : PG X (.Name n2 q2) (gName k2)) (hc : X.calm = true := by rfl)
    (a3 : (assignEach [.Name n1 q1, .Name n2 q2] X.env).map (·.2) = assign (.Name n1 q1) X.env :: (assignEach [.Name n2 q2] X.env).map (·.2) := by rfl)
    (a4 : (assignEach [.Name n2 q2] X.env).map (·.2) = assign (.Name n2 q2) X.env :: (assignEach [] X.env).map (·.2) := by rfl)
    (hn : (assignEach [.Name n1 q1, .Name n2 q2] X.env).length = 2 := by rfl) (hst : (assignEach [.Name n1 q1, .Name n2 q2] X.env).findIdx? (·.1) = none := by rfl) :
    PG X (.Tuple [.Name n1 q1, .Name n2 q2] kk tp) (gTup X.K 2 (gCons (gName k1) (gCons (gName k2) gNil))) := pg_tup hc (pgs_cons h1 (pgs_cons h2 pgs_nil a4) a3) hn hst
/-- anything -/
structure Thing where
  u : Unit
instance repThing : Rep Thing := ⟨fun _ _ _ _ => True, fun _ h => h⟩
theorem things {F : Hp} {K : PySem.W.Frag} : ∀ vs : List V, ∃ xs : List Thing, Paired (fun u x => repThing.rp K F u x) vs xs
  | [] => ⟨[], .nil⟩
  | v :: vs => let ⟨xs, h⟩ := things vs; ⟨⟨()⟩ :: xs, .cons trivial h⟩
/-- xs.append(e), whatever; the list is not known any more -/
theorem st_appendAny (k : Nat) {n : Str} {ad : Addr} {xs : List α} {P : Ret → Prop} {apos cpos : Pos} (he : EX X Γ e P) (hr : ST X rest (Γ.set k .no) E) (hz : xs.length < sizeLine) (hg : Γ[k]? = some (.lst i ad xs) := by rfl) (hN : X.N[k]? = some n := by rfl)
    (hv : Vis X.env.scope n := by first | exact Or.inl rfl | exact Or.inr (Or.inl rfl) | exact Or.inr (Or.inr rfl)) (hd : (n == ("__debug__" : Str)) = false := by decide) (hcd : (n == ("__classdict__" : Str)) = false := by decide)
    (hbase : attributeBase (.Name n p) "append" X.env (eval (.Name n p) X.env) = eval (.Name n p) X.env := by rfl)
    (hfew : ((backTo cpos (starEach [e] X.env)).all (fun x => !x.1) && (backToKw cpos (keywordEach [] X.env)).all (fun x => x.1.isSome) && decide ([e].length + ([] : List Keyword).length + (if ([] : List Keyword).isEmpty then 0 else 1) < 30)) = true := by rfl)
    (hline : (apos.endLine == cpos.line) = true := by rfl) (hs : starEach [e] X.env = (false, eval e X.env) :: starEach [] X.env := by exact star_of rfl) (hplain : (backTo cpos (starEach [] X.env)).any (·.1) = false := by rfl)
    (hsw : swapsWith (.Call (.Attribute (.Name n p) "append" apos) [e] [] cpos) none pos.line X.env = pure false := by rfl) :
    ST X (.Expr (.Call (.Attribute (.Name n p) "append" apos) [e] [] cpos) pos :: rest) Γ E := fun B F H σ D L ed => by
  obtain ⟨vs, ea, fa, ba, ha, pr⟩ := slot_lst L hg
  refine WP.cons (ps_expr (pe_bm PySem.F.plainAttrs_list PySem.F.slot_list_append PySem.F.type_list_append mt_append (pe_var hN hv hd hcd) (pa_cons peW pa_nil hs) hbase hfew hline hs hplain) hsw) ?_
  refine ⟨_, ea, .inl ⟨rfl, _, .inl (.inl ha)⟩, he B F H σ _ L fun r v F1 H1 _ e1 _ => ?_⟩
  have L1 := L.step e1
  obtain ⟨vs1, _, _, _, ha1, pr1⟩ := slot_lst L1 hg
  refine ⟨ad, vs1, v, rfl, rfl, ha1, by rw [Paired.length pr1]; exact hz, ?_⟩
  obtain ⟨ts, ht⟩ := things (F := F1) (K := X.K) (vs1 ++ [v])
  have L2 := (L1.updL hg ht).le (Γ' := Γ.set k .no) ⟨by simp, fun q t e => by
    rcases get_set_slot e with ⟨_, _, rfl⟩ | ⟨n1, e⟩
    · exact .inl rfl
    · exact .inr (by rw [List.getElem?_set_ne n1]; exact e)⟩
  exact hr B F1 _ σ D L2 (ed.weak e1.ff)
end
end Tw

namespace Tw
open PySem PySem.Spec PyProof.Rows L2 TL

/-! ### what the written part says of exception classes -/
structure XCls (K : PySem.W.Frag) (n : Str) (C : Addr) : Prop where
  ns : PySem.W.nsIn K mainGlobals n = some (some (.ref C))
  kp : PySem.W.keepIn K (.ref C) = true
  ty : PySem.W.typeIn K (.ref C) = some (.type "type")
  is : ExcC K C
/-- the class of a name -/
def XC (K : PySem.W.Frag) (mg : Str → Option Value) (n : Str) : Prop := ∃ C, XCls K n C ∧ mg n = some (.ref C)
/-- .. has no __init__ of its own -/
def XPlain (K : PySem.W.Frag) (n : Str) : Prop := ∀ C, PySem.W.nsIn K mainGlobals n = some (some (.ref C)) → PySem.W.excIn K C [.type "ValueError", .type "Exception", .type "BaseException", .type "object"] "ValueError.__new__" = true
/-- class n lies under class m, or not -/
def XSub (K : PySem.W.Frag) (n m : Str) (b : Bool) : Prop := ∀ C D, PySem.W.nsIn K mainGlobals n = some (some (.ref C)) → PySem.W.nsIn K mainGlobals m = some (some (.ref D)) → PySem.W.exmOne K (.ref C) (.ref D) = some b ∧ PySem.W.kitOne K (.ref C) (.ref D) = some b
def XSubT (K : PySem.W.Frag) (n : Str) (T : String) (b : Bool) : Prop := ∀ C, PySem.W.nsIn K mainGlobals n = some (some (.ref C)) → PySem.W.kitOne K (.ref C) (.type T) = some b
/-- None is no instance of it -/
def XNone (K : PySem.W.Frag) (t : String) (m : Str) : Prop := ∀ D, PySem.W.nsIn K mainGlobals m = some (some (.ref D)) → PySem.W.kitOne K (.type t) (.ref D) = some false
theorem ns_one {K : PySem.W.Frag} {n : Str} {C D : Addr} (h1 : PySem.W.nsIn K mainGlobals n = some (some (.ref C))) (h2 : PySem.W.nsIn K mainGlobals n = some (some (.ref D))) : D = C := by
  rw [h1] at h2
  cases h2
  rfl

theorem kitOf {K : PySem.W.Frag} {t : Value} {D : Addr} {b : Bool} (ht : PySem.W.typeIn K (.ref D) = some (.type "type")) (hd : PySem.W.hasDictIn K D = true) (h : PySem.W.subIn K t (.ref D) = some b) (hb : t = .ref D → b = true) : PySem.W.kitOne K t (.ref D) = some b := by
  unfold PySem.W.kitOne
  split
  · rename_i e
    rw [hb (beq_iff_eq.mp e)]
  · obtain ⟨cd, hc, _⟩ := PySem.W.any_some hd
    show (if ((PySem.W.clsIn K D).isSome && PySem.W.typeIn K (.ref D) == some (.type "type")) = true then PySem.W.subIn K t (.ref D) else none) = some b
    rw [if_pos (by rw [hc, ht]; rfl)]
    exact h
theorem XPlain.mk {K : PySem.W.Frag} {n : Str} {C : Addr} (a : PySem.W.nsIn K mainGlobals n = some (some (.ref C))) (h : PySem.W.excIn K C [.type "ValueError", .type "Exception", .type "BaseException", .type "object"] "ValueError.__new__" = true) : XPlain K n := fun D e => ns_one a e ▸ h
theorem XSub.mk {K : PySem.W.Frag} {n m : Str} {b : Bool} {C D : Addr} (a1 : PySem.W.nsIn K mainGlobals n = some (some (.ref C))) (a2 : PySem.W.nsIn K mainGlobals m = some (some (.ref D))) (ht : PySem.W.typeIn K (.ref D) = some (.type "type")) (hs : PySem.W.subIn K (.ref D) (.type "BaseException") = some true) (hd : PySem.W.hasDictIn K D = true)
    (h : PySem.W.subIn K (.ref C) (.ref D) = some b) (hb : C = D → b = true) : XSub K n m b := fun C' D' e1 e2 => by
  obtain rfl := ns_one a1 e1
  obtain rfl := ns_one a2 e2
  exact ⟨PySem.W.exm_ref hs hd ht h, kitOf ht hd h fun e => hb (Value.ref.inj e)⟩
theorem XSubT.mk {K : PySem.W.Frag} {n : Str} {T : String} {b : Bool} {C : Addr} (hm : PySem.W.kitMeta T = true) (a : PySem.W.nsIn K mainGlobals n = some (some (.ref C))) (h : PySem.W.subIn K (.ref C) (.type T) = some b) : XSubT K n T b := fun D e => by
  obtain rfl := ns_one a e
  show (if PySem.W.kitMeta T = true then PySem.W.subIn K (.ref D) (.type T) else none) = some b
  rw [if_pos hm]
  exact h
theorem XNone.mk {K : PySem.W.Frag} {t : String} {m : Str} {D : Addr} (a : PySem.W.nsIn K mainGlobals m = some (some (.ref D))) (ht : PySem.W.typeIn K (.ref D) = some (.type "type")) (hd : PySem.W.hasDictIn K D = true) (h : PySem.W.subIn K (.type t) (.ref D) = some false) : XNone K t m := fun D' e => by
  obtain rfl := ns_one a e
  exact kitOf ht hd h fun z => nomatch z
/-! ### a caught exception as data -/
/-- a caught exception of the class cls, its dict at d -/
def ErrO (cls : Value) (d : Option Addr) (a : Addr) : HO := .ext fun h => ∃ (oe : Obj) (vs : Array Value), h.get? a = some oe ∧ Zc cls d oe ∧ oe.data = .fields vs
theorem errO_ok {P : Program} {w : World} {H : Hp} {h : Heap} {a : Addr} {cls : Value} {d : Option Addr} {oe : Obj} {vs : Array Value} (e : h.get? a = some oe) (z : Zc cls d oe) (hd : oe.data = .fields vs) : ObjOk P w H h a (ErrO cls d a) :=
  ⟨⟨oe, vs, e, z, hd⟩, ⟨oe, e⟩, fun _ _ ⟨o, v, q, r⟩ k => ⟨o, v, k o q, r⟩⟩
structure Err where
  cls : Str
structure ErrW (α : Type) where
  cls : Str
  fld : Str
  why : α
def ErrAt (K : PySem.W.Frag) (F : Hp) (v : V) (n : Str) (d : Option Addr) : Prop := ∃ a C, v = .ref a ∧ F a = some (ErrO (.ref C) d a) ∧ PySem.W.nsIn K mainGlobals n = some (some (.ref C))
instance repErr : Rep Err := ⟨fun K F v x => ErrAt K F v x.cls none, fun s ⟨a, C, e, h, n⟩ => ⟨a, C, e, s _ _ h, n⟩⟩
instance repErrW {α : Type} [i : Rep α] : Rep (ErrW α) := ⟨fun K F v x => ∃ dx w, ErrAt K F v x.cls (some dx) ∧ F dx = some (.xd [(x.fld, w)]) ∧ i.rp K F w x.why,
  fun s ⟨dx, w, ⟨a, C, e, h, n⟩, h2, r⟩ => ⟨dx, w, ⟨a, C, e, s _ _ h, n⟩, s _ _ h2, i.mono s r⟩⟩
def Exn.slot (x : Exn) : Slot := match x.why with
  | .no => .val repErr ⟨x.cls⟩
  | .val i y => .val (@repErrW _ i) ⟨x.cls, x.fld, y⟩
  | .own _ => .no
class IsErr (α : Type) [i : Rep α] where
  cls : α → Str
  at_ : ∀ {K F v x}, i.rp K F v x → ∃ d, ErrAt K F v (cls x) d ∧ ∀ dx, d = some dx → ∃ fs, F dx = some (.xd fs)
instance : IsErr Err := ⟨fun x => x.cls, fun h => ⟨none, h, fun _ z => nomatch z⟩⟩
instance {α : Type} [i : Rep α] : IsErr (ErrW α) := ⟨fun x => x.cls, fun ⟨dx, w, h, h2, _⟩ => ⟨some dx, h, fun d e => by cases e; exact ⟨_, h2⟩⟩⟩

section
open PySem.W
variable {prog : Program} {w : World} {A : Around} {E : Value → Shared → Prop} {s : Shared} {K : Frag} {x D : Addr} {ox : Obj} {od : Option Obj}
theorem findObj_dataD {C : Addr} {name : Str} {a g : Value} (hc : (clsIn K C).isSome = true) (ha : findIn K (.ref C) name = some (some a)) (hg : specialIn K a "__get__" = some (some g)) (ht : takesIn K a = some true) : findObj K C od name = some (.bind g a) := by
  obtain ⟨cd, hc⟩ := Option.isSome_iff_exists.mp hc
  unfold findObj
  rw [hc, Option.bind_some, ha, Option.bind_some]
  simp [hg, ht]
theorem kin_classD {Q : Option Value → Shared → Prop} (T : L2.ExcC K D) (X : K.In s.heap) (I : InstAt s.heap x ox D od) (h : Q (some (.ref D)) { s with toks := s.toks + 1 }) : wpAny (model prog w) A (getAttr? (.ref x) "__class__") Q E s := by
  have hf : findObj K D od "__class__" = some (.bind (.builtin "getset_descriptor.__get__") (.builtin "object.__class__")) := findObj_dataD (by obtain ⟨cd, hc, _⟩ := any_some T.hd; rw [hc]; rfl) T.ha T.hn T.ht
  obtain ⟨hp, g, d, t, os⟩ := s
  have L0 := I.type (M := model prog w)
  have L1 := looks_findIn (M := model prog w) X T.hg
  have L2 := looks_findIn (M := model prog w) X T.hk
  have L3 := looks_find (M := model prog w) X I hf
  have sub : Looks (model prog w) hp (isInstance (.ref x) (.type "BaseException")) true := L0.andThen (looks_subIn X T.hs)
  have hx0 : (false && onTheHeap (Value.builtin "BaseException.__getattribute__")) = false := rfl
  have hx2 : (Value.builtin "BaseException.__getattribute__" == Value.builtin "object.__getattribute__") = false := by decide +kernel
  have hx1 : (onTheHeap (Value.ref D) && Value.builtin "BaseException.__getattribute__" == Value.builtin "object.__getattribute__") = false := by rw [hx2]; rfl
  unfold getAttr? getAttrBy? getAttrBy
  refine wpAny_bind (wpAny_mkText (wpAny_bind (wpAny_attempt (wpAny_holding (wpAny_bind (L0.at (wpAny_bind (L1.at ?_))))))))
  show wpAny _ _ (if (onTheHeap (Value.ref D) && Value.builtin "BaseException.__getattribute__" == Value.builtin "object.__getattribute__") = true then _ else _) _ _ _
  rw [hx1, if_neg Bool.false_ne_true]
  unfold getAttrByItsOwn hookBefore
  refine wpAny_bind ?_
  rw [if_pos (show onTheHeap (Value.ref D) = true from rfl)]
  refine L2.at ?_
  refine wpAny_bind (wpAny_attempt (wpAny_holding ?_))
  unfold callGetattribute
  rw [hx0, if_neg Bool.false_ne_true]
  unfold boundAndCalled
  rw [PySem.F.excAttr_ValueError.ga.bind (.ref x)]
  refine wpAny_bind (wpAny_pure ?_)
  show wpAny _ _ (call (.builtin "BaseException.__getattribute__") [.ref x, .str "__class__" t]) _ _ _
  refine wpAny_call (codeAny_call_builtin PySem.F.excAttr_ValueError.ga.plain PySem.F.entry_bexc_ga ?_)
  refine @check_slot (model prog w) _ _ ⟨hp, g, d, t + 1, os⟩ "BaseException.__getattribute__" "BaseException" "__getattribute__" (.ref x) [.str "__class__" t] [] _ (by decide +kernel) (by decide +kernel) sub (PySem.F.args_bexc_ga (.ref x) (.str "__class__" t)) ?_
  unfold Builtin.«object.__getattribute__»
  refine wpAny_bind (wpAny_of_eq (a := ((Value.ref x : Value), [Value.str "__class__" t])) (by first | rfl | (simp only [slotArgs]; rfl)) ?_)
  refine wpAny_bind (wpAny_pure (wpAny_bind (L0.at (wpAny_bind (L3.at ?_)))))
  show wpAny _ _ (holding [Value.builtin "object.__class__"] (call (.builtin "getset_descriptor.__get__") [.builtin "object.__class__", .ref x, .ref D]) >>= ret) _ _ _
  refine wpAny_bind (wpAny_holding (wpAny_call (class_get (s := ⟨hp, g, d, t + 1, os⟩) (ox := ox) (od := od) X I T.hm ?_)))
  refine wpAny_pure ?_
  show wpAny _ _ (handedOut (.ref D)) _ _ _
  rw [handedOut_of (v := .ref D) rfl]
  first
    | exact wpAny_pure (wpAny_pure h)
    | exact wpAny_pure h
    | exact wpAny_pure (wpAny_bind (wpAny_pure (wpAny_pure h)))
theorem kitx_err (T : L2.ExcC K D) : KitX K (.ref x) (.ref D) (fun h => ∃ ox od, InstAt h x ox D od) where
  ty := fun _ _ _ ⟨_, _, I⟩ => I.type
  it := fun _ _ X _ => by
    obtain ⟨cdD, hcD, _⟩ := any_some T.hd
    unfold clsIn at hcD
    split at hcD
    · rename_i c' d' cd' sl' ho
      intro A' Q' E' s' k q
      unfold isType loadHead
      exact wpAny_bind (wpAny_loadPart (k _ _ (X _ _ ho)) (wpAny_pure q))
    · cases hcD
  ne := fun h tp dd its n sl X htp => by
    obtain ⟨cdD, hcD, _⟩ := any_some T.hd
    refine Bool.eq_false_iff.mpr fun q => ?_
    have e : D = tp := Value.ref.inj (beq_iff_eq.mp q)
    subst e
    unfold clsIn at hcD
    split at hcD
    · rename_i c' d' cd' sl' ho
      have z := (X _ _ ho).symm.trans htp
      cases z
    · cases hcD
  ca := fun X ⟨_, _, I⟩ k => kin_classD T X I k
end
section
variable {X : Cx} {pins : List (Addr × Obj)} {σ : L2.St} {H : Hp} {s : Shared}
theorem err_inst {a C : Addr} {d : Option Addr} (I : Inv X pins σ H s) (ha : H a = some (ErrO (.ref C) d a)) (hd : ∀ dx, d = some dx → ∃ fs, H dx = some (.xd fs)) : ∃ ox od, PySem.W.InstAt s.heap a ox C od := by
  have x : ObjOk X.prog X.w H s.heap a (ErrO (.ref C) d a) := I.hok a _ ha
  obtain ⟨⟨oe, vs, hget, hz, hv⟩, _⟩ := x
  have no : PySem.W.notCls oe = true := by unfold PySem.W.notCls; rw [hv] <;> rfl
  cases d with
  | none => exact ⟨oe, none, hget, hz.1, no, by rw [hz.2]; trivial⟩
  | some dx =>
    obtain ⟨fs, ed⟩ := hd dx rfl
    have hx : ObjOk X.prog X.w H s.heap dx (.xd fs) := I.hok dx _ ed
    obtain ⟨mA, hns, hr⟩ := hx
    obtain ⟨od, ho, hl⟩ := lookIn_ns hns
    exact ⟨oe, some od, hget, hz.1, no, by rw [hz.2]; exact ho⟩
/-- isinstance(e, c), e a caught exception -/
def rIsErr (K : PySem.W.Frag) : List V → Hp → VK → Prop := fun xs H Q => ∃ (a C : Addr) (d : Option Addr) (c : V) (u : Value) (b : Bool), xs = [.ref a, c] ∧ H a = some (ErrO (.ref C) d a) ∧ (∀ dx, d = some dx → ∃ fs, H dx = some (.xd fs)) ∧ ExcC K C ∧ ClsV c u ∧ PySem.W.kitOne K (.ref C) u = some b ∧ Q (.bl b) H
theorem call_isErr : CallR X (.builtin "isinstance") (rIsErr X.K) := by
  intro pins s σ H xs us Q I r h
  obtain ⟨a, C, d, c, u, b, rfl, ha, hd, T, k, e, q⟩ := h
  obtain ⟨u1, u2, rfl, r1, r2⟩ := vals2 r
  have e2 := k.eq r2
  subst e2
  obtain rfl : u1 = Value.ref a := r1
  exact PySem.W.kia_one (kitx_err T) I.kIn (err_inst I ha hd) e (fun z => nomatch z) fun tk => ⟨.bl b, H, I.tok tk, rfl, q⟩
/-- .., a tuple of classes -/
def rIsErrT (K : PySem.W.Frag) : List V → Hp → VK → Prop := fun xs H Q => ∃ (a C : Addr) (d : Option Addr) (tp : Addr) (cs : List V) (us : List Value) (b : Bool), xs = [.ref a, .ref tp] ∧ H a = some (ErrO (.ref C) d a) ∧ (∀ dx, d = some dx → ∃ fs, H dx = some (.xd fs)) ∧ ExcC K C ∧ H tp = some (.tup cs) ∧ Paired ClsV cs us ∧ PySem.W.kitAny K (.ref C) us = some b ∧ Q (.bl b) H
theorem call_isErrT : CallR X (.builtin "isinstance") (rIsErrT X.K) := by
  intro pins s σ H xs us Q I r h
  obtain ⟨a, C, d, tp, cs, ws, b, rfl, ha, hd, T, hT, k, e, q⟩ := h
  obtain ⟨u1, u2, rfl, r1, r2⟩ := vals2 r
  cases (show u2 = Value.ref tp from r2)
  obtain rfl : u1 = Value.ref a := r1
  obtain ⟨_, its, rv, o, h1, h2, n, h3⟩ := (show ObjOk X.prog X.w H s.heap tp (.tup cs) from I.hok tp _ hT)
  have e3 := ClsV.all k rv
  subst e3
  obtain ⟨oc, od, dt, sl⟩ := o
  simp only at h2 h3
  subst h2 h3
  exact PySem.W.kia_tup (kitx_err T) I.kIn (err_inst I ha hd) h1 e (fun z => nomatch z) fun tk => ⟨.bl b, H, I.tok tk, rfl, q⟩
end
end Tw

namespace Tw
open PySem PySem.Spec PyProof.Rows L2 TL

section
variable {X : Cx} {Γ : List Slot} {α β γ : Type} {i : Rep α} {j : Rep β} {l : Rep γ} {pos p p2 : Pos} {e a b c elt tg it : Expr} {es : List Expr} {E : SE} {rest body : List Stmt}

/-! ### questions about caught exceptions -/
theorem ev_isiE {α : Type} [i : Rep α] [t : IsErr α] {x : α} {n c : Str} {k : Bool} (hm : X.mg "isinstance" = none) (hx : XC X.K X.mg n) (hc : XC X.K X.mg c) (hk : XSub X.K n c k) (h : EV X Γ e x) (hn : t.cls x = n := by rfl) (hg : Gl X "isinstance" := by rfl) (hgT : Gl X c := by rfl) (hdT : (c == ("__debug__" : Str)) = false := by decide)
    (hs : starEach [e, .Name c p2] X.env = (false, eval e X.env) :: starEach [.Name c p2] X.env := by exact star_of rfl) (hs2 : starEach [.Name c p2] X.env = (false, eval (.Name c p2) X.env) :: starEach [] X.env := by exact star_of rfl) (hpl : (backTo pos (starEach [.Name c p2] X.env)).any (·.1) = false := by exact pl_of rfl) :
    EV X Γ (.Call (.Name "isinstance" p) [e, .Name c p2] [] pos) k := fun B F H σ Q L q => by
  obtain ⟨D, xD, gD⟩ := hc
  obtain ⟨C, xC, gC⟩ := hx
  refine WE.of (pe_callB call_isErr hg hm (by decide +kernel) (pa_cons peW (pa_cons (pe_glob (v := .ref D) hgT gD rfl hdT) pa_nil hs2) hs) (by decide) (by decide) hs hpl) (h B F H σ _ L fun v F1 H1 e1 r1 => ?_)
  obtain ⟨d, ⟨ad, C', rfl, ha, hC⟩, hd⟩ := t.at_ r1
  rw [hn] at hC
  obtain rfl := ns_one xC.ns hC
  have s1 := (L.step e1).same
  exact ⟨ad, C', d, .ref D, .ref D, k, rfl, s1 _ _ ha, fun dx z => by obtain ⟨fs, y⟩ := hd dx z; exact ⟨fs, s1 _ _ y⟩, xC.is, .own D, (hk C' D xC.ns xD.ns).2, q _ F1 H1 e1 rfl⟩
theorem ev_isiEB {α : Type} [i : Rep α] [t : IsErr α] {x : α} {n : Str} (T : String) {k : Bool} (hm : X.mg "isinstance" = none) (hmT : X.mg (Str.ofString T) = none) (hx : XC X.K X.mg n) (hk : XSubT X.K n T k) (h : EV X Γ e x) (hn : t.cls x = n := by rfl) (hvT : bootBuiltins (Str.ofString T) = some (.type T) := by decide +kernel) (hg : Gl X "isinstance" := by rfl) (hgT : Gl X (Str.ofString T) := by rfl)
    (hnT : Str.ofString T ≠ "__name__" := by decide) (hdT : (Str.ofString T == ("__debug__" : Str)) = false := by decide)
    (hs : starEach [e, .Name (Str.ofString T) p2] X.env = (false, eval e X.env) :: starEach [.Name (Str.ofString T) p2] X.env := by exact star_of rfl) (hs2 : starEach [.Name (Str.ofString T) p2] X.env = (false, eval (.Name (Str.ofString T) p2) X.env) :: starEach [] X.env := by exact star_of rfl) (hpl : (backTo pos (starEach [.Name (Str.ofString T) p2] X.env)).any (·.1) = false := by exact pl_of rfl) :
    EV X Γ (.Call (.Name "isinstance" p) [e, .Name (Str.ofString T) p2] [] pos) k := fun B F H σ Q L q => by
  obtain ⟨C, xC, gC⟩ := hx
  refine WE.of (pe_callB call_isErr hg hm (by decide +kernel) (pa_cons peW (pa_cons (pe_bltn (v := .ty T) hgT hmT hvT rfl hnT hdT) pa_nil hs2) hs) (by decide) (by decide) hs hpl) (h B F H σ _ L fun v F1 H1 e1 r1 => ?_)
  obtain ⟨d, ⟨ad, C', rfl, ha, hC⟩, hd⟩ := t.at_ r1
  rw [hn] at hC
  obtain rfl := ns_one xC.ns hC
  have s1 := (L.step e1).same
  exact ⟨ad, C', d, .ty T, .type T, k, rfl, s1 _ _ ha, fun dx z => by obtain ⟨fs, y⟩ := hd dx z; exact ⟨fs, s1 _ _ y⟩, xC.is, .ty T, hk C' xC.ns, q _ F1 H1 e1 rfl⟩
/-- names of classes in a row -/
def ECs (X : Cx) (es : List Expr) (cs : List Str) : Prop := ∀ σ H Q, (∀ vs, Paired (fun v c => ∃ D, v = V.ref D ∧ PySem.W.nsIn X.K mainGlobals c = some (some (.ref D))) vs cs → Q vs H) → WA X es σ H Q
theorem ec_nil : ECs X [] [] := fun σ H Q q => WA.of pa_nil (q [] .nil)
theorem ec_cons {n : Str} {cs : List Str} (hc : XC X.K X.mg n) (hr : ECs X es cs) (hg : Gl X n := by rfl) (hd : (n == ("__debug__" : Str)) = false := by decide) (hs : starEach (.Name n p :: es) X.env = (false, eval (.Name n p) X.env) :: starEach es X.env := by exact star_of rfl) : ECs X (.Name n p :: es) (n :: cs) := fun σ H Q q => by
  obtain ⟨D, xD, gD⟩ := hc
  exact WA.of (pa_cons (pe_glob (v := .ref D) hg gD rfl hd) paW hs) (hr σ H _ fun vs h => q (.ref D :: vs) (.cons ⟨D, rfl, xD.ns⟩ h))
theorem clsvs {K : PySem.W.Frag} {n : Str} {C : Addr} (hC : PySem.W.nsIn K mainGlobals n = some (some (.ref C))) : ∀ {vs : List V} {cs : List Str}, Paired (fun v c => ∃ D, v = V.ref D ∧ PySem.W.nsIn K mainGlobals c = some (some (.ref D))) vs cs → (∀ c ∈ cs, XSub K n c false) →
    ∃ us, Paired ClsV vs us ∧ PySem.W.kitAny K (.ref C) us = some false
  | _, _, .nil, _ => ⟨[], .nil, kitAny_nil⟩
  | _, _, .cons (a := v) (b := c) ⟨D, e, hD⟩ t, hk => by
    obtain ⟨us, p, h⟩ := clsvs hC t fun c hc => hk c (List.mem_cons_of_mem _ hc)
    subst e
    exact ⟨.ref D :: us, .cons (.own D) p, kitAny_cons (hk _ (List.mem_cons_self ..) C D hC hD).2 (fun _ => h) (fun z => nomatch z)⟩
/-- isinstance(e, (c1, c2, ..)), e of none of them -/
theorem ev_isiEF {α : Type} [i : Rep α] [t : IsErr α] {x : α} {n : Str} {cs : List Str} {x1} (hm : X.mg "isinstance" = none) (hx : XC X.K X.mg n) (hc : ECs X es cs) (hk : ∀ c ∈ cs, XSub X.K n c false) (h : EV X Γ e x) (hz : cs.length ≤ 1000 := by decide) (hn : t.cls x = n := by rfl) (hg : Gl X "isinstance" := by rfl)
    (hs : starEach [e, .Tuple es x1 p2] X.env = (false, eval e X.env) :: starEach [.Tuple es x1 p2] X.env := by exact star_of rfl) (hs2 : starEach [.Tuple es x1 p2] X.env = (false, eval (.Tuple es x1 p2) X.env) :: starEach [] X.env := by exact star_of rfl) (hpl : (backTo pos (starEach [.Tuple es x1 p2] X.env)).any (·.1) = false := by exact pl_of rfl) :
    EV X Γ (.Call (.Name "isinstance" p) [e, .Tuple es x1 p2] [] pos) false := fun B F H σ Q L q => by
  obtain ⟨C, xC, gC⟩ := hx
  refine WE.of (pe_callB call_isErrT hg hm (by decide +kernel) (pa_cons peW (pa_cons (pe_tup paW) pa_nil hs2) hs) (by decide) (by decide) hs hpl) (h B F H σ _ L fun v F1 H1 e1 r1 => hc σ H1 _ fun vs pr => ⟨by rw [Paired.length pr]; exact sl_small hz, fun tp htp => ?_⟩)
  obtain ⟨d, ⟨ad, C', rfl, ha, hC⟩, hd⟩ := t.at_ r1
  rw [hn] at hC
  obtain rfl := ns_one xC.ns hC
  have s1 := (L.step e1).same
  obtain ⟨us, pu, hu⟩ := clsvs xC.ns pr hk
  have ea := Ext.new (o := .tup vs) s1 htp
  have s2 : Same F1 (upd H1 tp (.tup vs)) := ea.ff.trans ea.fh
  exact ⟨ad, C', d, tp, vs, us, false, rfl, s2 _ _ ha, fun dx z => by obtain ⟨fs, y⟩ := hd dx z; exact ⟨fs, s2 _ _ y⟩, xC.is, upd_same, pu, hu, q _ _ _ (e1.trans ea) rfl⟩
/-- isinstance(None, c) is False -/
theorem ev_isiN {c : Str} (hm : X.mg "isinstance" = none) (hc : XC X.K X.mg c) (hk : XNone X.K "NoneType" c) (h : EV X Γ e ()) (hg : Gl X "isinstance" := by rfl) (hgT : Gl X c := by rfl) (hdT : (c == ("__debug__" : Str)) = false := by decide)
    (hs : starEach [e, .Name c p2] X.env = (false, eval e X.env) :: starEach [.Name c p2] X.env := by exact star_of rfl) (hs2 : starEach [.Name c p2] X.env = (false, eval (.Name c p2) X.env) :: starEach [] X.env := by exact star_of rfl) (hpl : (backTo pos (starEach [.Name c p2] X.env)).any (·.1) = false := by exact pl_of rfl) :
    EV X Γ (.Call (.Name "isinstance" p) [e, .Name c p2] [] pos) false := fun B F H σ Q L q => by
  obtain ⟨D, xD, gD⟩ := hc
  refine WE.of (pe_callB call_isi hg hm (by decide +kernel) (pa_cons peW (pa_cons (pe_glob (v := .ref D) hgT gD rfl hdT) pa_nil hs2) hs) (by decide) (by decide) hs hpl) (h B F H σ _ L fun v F1 H1 e1 r1 => ?_)
  obtain rfl : v = .non := r1
  exact ⟨.non, .ref D, .type "NoneType", .ref D, false, rfl, .own D, .base .non, hk D xD.ns, q _ F1 H1 e1 rfl⟩
/-- the field of a caught exception -/
theorem pe_xfH {te : TE} {n : Str} (he : PE X e te) (hb : attributeBase e n X.env (eval e X.env) = eval e X.env := by rfl) : PE X (.Attribute e n pos) (fun σ H Q => te σ H fun x H1 => ∃ (a C dx : Addr) (fs : List (Str × V)) (v : V), x = .ref a ∧ H1 a = some (ErrO (.ref C) (some dx) a) ∧ H1 dx = some (.xd fs) ∧ ExcC X.K C ∧ PySem.W.findIn X.K (.ref C) n = some none ∧ fs.lookup n = some v ∧ Q v H1) := by
  refine ⟨fun pins s σ H Q I h => ?_⟩
  refine attr_of hb (thn (he.run pins s σ H _ I h) fun u s1 hh => ?_)
  obtain ⟨x, H1, I1, rx, ad, C, dx, fs, v, ex, ha, hd, T, hno, l, q⟩ := hh
  subst ex
  obtain rfl : u = Value.ref ad := rx
  have x : ObjOk X.prog X.w H1 s1.heap ad (ErrO (.ref C) (some dx) ad) := I1.hok ad _ ha
  obtain ⟨⟨oe, vs, hget, hz, hv⟩, _⟩ := x
  have no : PySem.W.notCls oe = true := by unfold PySem.W.notCls; rw [hv] <;> rfl
  have hx : ObjOk X.prog X.w H1 s1.heap dx (.xd fs) := I1.hok dx _ hd
  obtain ⟨mA, hns, hr⟩ := hx
  obtain ⟨od, ho, hl⟩ := lookIn_ns hns
  obtain ⟨u, hu, ru⟩ := RelO.some_of (v := v) (o := mA n) (by rw [← l]; exact hr n)
  have J : PySem.W.InstAt s1.heap ad oe C (some od) := ⟨hget, hz.1, no, by rw [hz.2]; exact ho⟩
  exact HandSPX.exc_get I1.kIn J T.hg T.hk T.hs (PySem.W.findObj_own T.hd hno rfl (by rw [hl, hu])) (handed_of ru) ⟨v, H1, I1.tok _, ru, q⟩
def XFld (K : PySem.W.Frag) (n f : Str) : Prop := ∀ C, PySem.W.nsIn K mainGlobals n = some (some (.ref C)) → PySem.W.findIn K (.ref C) f = some none
theorem ev_errW {α : Type} [i : Rep α] {x : ErrW α} {n f : Str} (hx : XC X.K X.mg n) (hf : XFld X.K n f) (h : EV X Γ e x) (hn : x.cls = n := by rfl) (hfx : x.fld = f := by rfl) (hb : attributeBase e f X.env (eval e X.env) = eval e X.env := by rfl) : EV X Γ (.Attribute e f pos) x.why := fun B F H σ Q L q =>
  WE.of (pe_xfH peW hb) (h B F H σ _ L fun v F1 H1 e1 r1 => by
    obtain ⟨C, xC, gC⟩ := hx
    obtain ⟨dx, w, ⟨ad, C', rfl, ha, hC⟩, hd, r⟩ := r1
    rw [hn] at hC
    obtain rfl := ns_one xC.ns hC
    have s1 := (L.step e1).same
    exact ⟨ad, C', dx, _, w, rfl, s1 _ _ ha, s1 _ _ hd, xC.is, hf C' xC.ns, by rw [hfx]; simp [List.lookup], q w F1 H1 e1 r⟩)

/-! ### is None -/
class NonN (α : Type) [i : Rep α] : Prop where
  nn : ∀ {K F v} {x : α}, i.rp K F v x → v ≠ .non
instance : NonN Int := ⟨fun {_ _ v x} h z => by obtain rfl : v = .int x := h; cases z⟩
instance : NonN Bool := ⟨fun {_ _ v x} h z => by obtain rfl : v = .bl x := h; cases z⟩
instance : NonN (List Nat) := ⟨fun {_ _ v x} h z => by obtain rfl : v = .str (sx x) := h; cases z⟩
instance {α : Type} [i : Rep α] : NonN (List α) := ⟨fun h z => by obtain ⟨a, vs, rfl, _⟩ := h; cases z⟩
instance {α : Type} [i : Rep α] : NonN (Tup α) := ⟨fun h z => by obtain ⟨a, vs, rfl, _⟩ := h; cases z⟩
instance {α β : Type} [i : Rep α] [j : Rep β] : NonN (α × β) := ⟨fun h z => by obtain ⟨a, u, w, rfl, _⟩ := h; cases z⟩
instance : NonN Err := ⟨fun h z => by obtain ⟨a, u, rfl, _⟩ := h; cases z⟩
instance {α : Type} [i : Rep α] : NonN (ErrW α) := ⟨fun h z => by obtain ⟨a, u, ⟨_, _, rfl, _⟩, _⟩ := h; cases z⟩
theorem o_isNo {x : α} [NonN α] : OB X (compareOp .Is) x () false := ob_flat op_isN fun F H v u Q s r1 r2 q => ⟨r2, by
  rw [decide_eq_false (NonN.nn r1)]
  exact q _ rfl⟩
theorem o_notNo {x : α} [NonN α] : OB X (compareOp .IsNot) x () true := ob_flat op_notN fun F H v u Q s r1 r2 q => ⟨r2, by
  rw [decide_eq_false (NonN.nn r1)]
  exact q _ rfl⟩
theorem o_isU : OB X (compareOp .Is) () () true := ob_flat op_isN fun F H v u Q s r1 r2 q => ⟨r2, by
  obtain rfl : v = .non := r1
  exact q _ rfl⟩
theorem o_notU : OB X (compareOp .IsNot) () () false := ob_flat op_notN fun F H v u Q s r1 r2 q => ⟨r2, by
  obtain rfl : v = .non := r1
  exact q _ rfl⟩
theorem o_isO {x : Option α} [NonN α] : OB X (compareOp .Is) x () x.isNone := by
  cases x with
  | none => exact fun F H v u Q s r1 r2 => o_isU F H v u Q s r1 r2
  | some x => exact fun F H v u Q s r1 r2 => o_isNo (x := x) F H v u Q s r1 r2
theorem o_notO {x : Option α} [NonN α] : OB X (compareOp .IsNot) x () x.isSome := by
  cases x with
  | none => exact fun F H v u Q s r1 r2 => o_notU F H v u Q s r1 r2
  | some x => exact fun F H v u Q s r1 r2 => o_notNo (x := x) F H v u Q s r1 r2
theorem ev_un {x : α} (h : EV X Γ e (some x)) : EV X Γ e x := fun B F H σ Q L q => h B F H σ Q L fun v F' H' ex r => q v F' H' ex r
theorem ev_unN (h : EV X Γ e (none : Option α)) : EV X Γ e () := fun B F H σ Q L q => h B F H σ Q L fun v F' H' ex r => q v F' H' ex r
/-! ### expressions that may raise -/
def EXX (X : Cx) (Γ : List Slot) (e : Expr) (P : Ret → Prop) (R : Exn → Prop) : Prop :=
  ∀ B F H σ Q, Lc X.K B F H σ Γ → (∀ r v F' H', P r → Ext F H F' H' → ROk X.K (Nw H) F' H' v r → Q v H') → (∀ x u d F' H', R x → Ext F H F' H' → XOk X.K (Nw H) F' H' u d x → XW X u d σ H') → WE X e σ H Q
theorem exx_of (h : EX X Γ e P) {R : Exn → Prop} : EXX X Γ e P R := fun B F H σ Q L q _ => h B F H σ Q L q
theorem exx_call {n : Str} {k : Nat} {ps : List Str} {S : Spec} {A : List Slot} {P : Ret → Prop} {R : Exn → Prop} (G : Has X.prog X.w X.K X.mg X.base k n ps S) (hr : Room k X.A) (ha : EA X Γ (e :: es) A)
    (hS : ∀ P' R', (∀ r, P r → P' r) → (∀ x, R x → R' x) → S A P' R') (hg : Gl X n := by rfl) (hd : (n == ("__debug__" : Str)) = false := by decide)
    (he : starEach (e :: es) X.env = (false, eval e X.env) :: starEach es X.env := by exact star_of rfl) (hpl : (backTo pos (starEach es X.env)).any (·.1) = false := by exact pl_of rfl) : EXX X Γ (.Call (.Name n p) (e :: es) [] pos) P R := fun B F H σ Q L q z => by
  obtain ⟨f, fd, hm, hk, hb, G⟩ := G.ex
  refine WE.of (pe_callS (E := fun σ cls d H => XW X cls d σ H) G hr hg hm hk hb (fun σ => passAt takesW σ) paW hd he hpl) (ha B F H σ _ L fun vs F1 H1 e1 r1 => ?_)
  exact ⟨F1, A, (L.step e1).same, r1.toO, r1.apart, hS _ _ (fun r hr v F2 H2 e2 ok => q r v F2 H2 hr (e1.thenM e2 fun _ m => (r1.ma m).elim) (ok.imp fun b h => e1.hs.free (h.elim id fun m => (r1.ma m).elim))) fun x hx u d F2 H2 e2 ok => z x u d F2 H2 hx (e1.thenM e2 fun _ m => (r1.ma m).elim) (ok.imp fun b h => e1.hs.free (h.elim id fun m => (r1.ma m).elim))⟩
theorem st_setX (k : Nat) {n : Str} {x : α} {R : Exn → Prop} (he : EXX X Γ e (fun r => r = .val i x) R) (hr : ST X rest (Γ.set k (.val i x)) E) (hR : ∀ x, R x → E.ex Γ x) (hN : X.N.Nodup) (hi : X.N[k]? = some n := by rfl) (hx : L2.Loc X.env.scope n := by first | exact Or.inl rfl | exact Or.inr rfl)
    (hs : swapsWith e (some (.Name n p)) pos.line X.env = pure false := by rfl) (hf : X.fn n = true ∨ X.env.scope.names.lookup n = some .local := by first | exact .inl rfl | exact .inr rfl) : ST X (.Assign [.Name n p] e pos :: rest) Γ E := fun B F H σ D L ed =>
  WP.cons (ps_set hN hi hx peW hs hf) (he B F H σ _ L (fun r v F1 H1 er e1 r1 => by subst er; exact hr B F1 H1 _ D ((L.step e1).putV k r1) (ed.weak e1.ff)) fun x u d F1 H1 hx e1 ok => ed.exS (Same.refl F) (hR x hx) L e1 ok)
theorem st_setXN (k : Nat) {n : Str} {xs : List α} {R : Exn → Prop} (he : EXX X Γ e (fun r => r = .new i xs) R) (hr : ∀ ad, ST X rest (Γ.set k (.lst i ad xs)) E) (hR : ∀ x, R x → E.ex Γ x) (hN : X.N.Nodup) (hi : X.N[k]? = some n := by rfl) (hx : L2.Loc X.env.scope n := by first | exact Or.inl rfl | exact Or.inr rfl)
    (hs : swapsWith e (some (.Name n p)) pos.line X.env = pure false := by rfl) (hf : X.fn n = true ∨ X.env.scope.names.lookup n = some .local := by first | exact .inl rfl | exact .inr rfl) : ST X (.Assign [.Name n p] e pos :: rest) Γ E := fun B F H σ D L ed =>
  WP.cons (ps_set hN hi hx peW hs hf) (he B F H σ _ L (fun r v F1 H1 er e1 r1 => by
    subst er
    obtain ⟨ad, vs, rfl, ha, fa, h1, pr⟩ := r1
    exact hr ad B F1 H1 _ D (L.putL k e1 ha fa h1 pr) (ed.weak e1.ff)) fun x u d F1 H1 hx e1 ok => ed.exS (Same.refl F) (hR x hx) L e1 ok)
/-- it raises, whatever -/
theorem st_setR (k : Nat) {n : Str} {R : Exn → Prop} (he : EXX X Γ e (fun _ => False) R) (hR : ∀ x, R x → E.ex Γ x) (hN : X.N.Nodup) (hi : X.N[k]? = some n := by rfl) (hx : L2.Loc X.env.scope n := by first | exact Or.inl rfl | exact Or.inr rfl)
    (hs : swapsWith e (some (.Name n p)) pos.line X.env = pure false := by rfl) (hf : X.fn n = true ∨ X.env.scope.names.lookup n = some .local := by first | exact .inl rfl | exact .inr rfl) : ST X (.Assign [.Name n p] e pos :: rest) Γ E := fun B F H σ D L ed =>
  WP.cons (ps_set hN hi hx peW hs hf) (he B F H σ _ L (fun r v F1 H1 er e1 r1 => er.elim) fun x u d F1 H1 hx e1 ok => ed.exS (Same.refl F) (hR x hx) L e1 ok)
theorem st_retX {P : Ret → Prop} {R : Exn → Prop} (he : EXX X Γ e P R) (hP : ∀ r, P r → E.rt r) (hR : ∀ x, R x → E.ex Γ x) : ST X (.Return (some e) pos :: rest) Γ E := fun B F H σ D L ed =>
  WP.cons (ps_ret peW) (he B F H σ _ L (fun r v F1 H1 hr e1 ok => ed.rt r v F1 H1 (hP r hr) (L.step e1).ext (ok.imp fun b h => L.nw h)) fun x u d F1 H1 hx e1 ok => ed.exS (Same.refl F) (hR x hx) L e1 ok)
theorem st_dropX {P : Ret → Prop} {R : Exn → Prop} (he : EXX X Γ e P R) (hr : ST X rest Γ E) (hR : ∀ x, R x → E.ex Γ x) (hs : swapsWith e none pos.line X.env = pure false := by rfl) : ST X (.Expr e pos :: rest) Γ E := fun B F H σ D L ed =>
  WP.cons (ps_expr peW hs) (he B F H σ _ L (fun r v F1 H1 _ e1 _ => hr B F1 H1 σ D (L.step e1) (ed.weak e1.ff)) fun x u d F1 H1 hx e1 ok => ed.exS (Same.refl F) (hR x hx) L e1 ok)

/-! ### raise -/
theorem raisesX {n : Str} {C : Addr} (x : XCls X.K n C) : Raises X (.ref C) := raises_own x.is.hs x.ty
/-- raise X('..') -/
theorem st_raise0 {n m : Str} {j : Nat} {p1 p3 : Pos} (hc : XC X.K X.mg n) (hp : XPlain X.K n) (hE : E.ex Γ ⟨n, "", .no⟩) (hcalm : X.calm = true := by rfl) (hg : Gl X n := by rfl) (hdb : (n == ("__debug__" : Str)) = false := by decide) :
    ST X (.Raise (some (.Call (.Name n p) [.Constant (.str m) j p2] [] p1)) none p3 :: rest) Γ E := fun B F H σ D L ed => by
  obtain ⟨C, xC, gC⟩ := hc
  refine WP.cons (ps_raise hcalm takesW (pmk_own PySem.F.excBase_ValueError (hp C xC.ns) gC xC.kp (raisesX xC) hg hdb)) ?_
  exact ed.exS (Same.refl F) hE L (Ext.refl L.same) ⟨C, rfl, xC.ns, rfl⟩
/-- a class whose __init__ sets one field to its argument: of level k -/
def InitSp (K : PySem.W.Frag) (C : Addr) (fld : Str) : Sp := fun vs H Q E => ∃ (a : Addr) (v : V), vs = [.ref a, v] ∧ H a = some (exo a C none) ∧ ∀ dx, H dx = none → dx ≠ a → Q .non (upd (upd H dx (exd dx [(fld, v)])) a (exo a C (some dx)))
structure XInit (P : Program) (w : World) (K : PySem.W.Frag) (mg : Str → Option Value) (base : Heap) (k : Nat) (n fld : Str) : Prop where
  ex : ∀ C, PySem.W.nsIn K mainGlobals n = some (some (.ref C)) → OexC K C ∧ ∃ (fI : Addr) (fd : FuncData) (ps : List Str), PySem.W.findIn K (.ref C) "__init__" = some (some (.ref fI)) ∧ PySem.W.typeIn K (.ref fI) = some (.type "function") ∧ Binds K fd ps [] ∧ FnOk P w K mg base (L2.CX P w) k fI fd ps (InitSp K C fld)
/-- raise X(e) -/
theorem st_raise1 {n fld : Str} {y : α} {k : Nat} {p1 p3 : Pos} (hc : XC X.K X.mg n) (hi : XInit X.prog X.w X.K X.mg X.base k n fld) (hr : Room (k + 1) X.A) (he : EV X Γ e y) (hE : E.ex Γ ⟨n, fld, .val i y⟩) (hcalm : X.calm = true := by rfl) (hg : Gl X n := by rfl) (hdb : (n == ("__debug__" : Str)) = false := by decide)
    (hs : starEach [e] X.env = (false, eval e X.env) :: starEach [] X.env := by exact star_of rfl) (hpl : (backTo p1 (starEach [] X.env)).any (·.1) = false := by exact pl_of rfl) :
    ST X (.Raise (some (.Call (.Name n p) [e] [] p1)) none p3 :: rest) Γ E := fun B F H σ D L ed => by
  obtain ⟨C, xC, gC⟩ := hc
  obtain ⟨T, fI, fd, ps, iC, tI, hb, F1⟩ := hi.ex C xC.ns
  refine WP.cons (ps_raise hcalm takesW (pmk_oex T iC tI F1 hr hb .nil passL hg gC paW hdb hs hpl)) ?_
  refine ea_cons he ea_nil hs B F H σ _ L fun vs F1 H1 e1 r1 => ?_
  match vs, r1 with
  | [w], ⟨rw1, _⟩ =>
  refine ⟨by show 1 ≤ 1000; decide, fun a ha => ⟨a, w, rfl, upd_same, fun dx hdx hne => ⟨rfl, dx, [(fld, w)], upd_same, by rw [upd_ne hne, upd_same], ?_, ?_⟩⟩⟩
  · rw [upd_ne hne] at hdx; exact hdx
  · have hd1 : H1 dx = none := by rw [upd_ne hne] at hdx; exact hdx
    have s1 := (L.step e1).same
    have eq : upd (del (upd (upd (upd H1 a (exo a C none)) dx (exd dx [(fld, w)])) a (exo a C (some dx))) a) dx (.xd [(fld, w)]) = upd H1 dx (.xd [(fld, w)]) := by
      funext b
      by_cases hbd : b = dx
      · subst hbd; rw [upd_same, upd_same]
      · rw [upd_ne hbd, upd_ne hbd]
        by_cases hba : b = a
        · subst hba; rw [del_same, ha]
        · rw [del_ne hba, upd_ne hba, upd_ne hbd, upd_ne hba]
    rw [eq]
    have e2 := Ext.apart (o := .xd [(fld, w)]) s1 hd1
    refine ed.exS (Same.refl F) hE L (e1.trans e2) ⟨C, rfl, xC.ns, dx, w, rfl, e1.hs.free hd1, s1.free hd1, upd_same, rw1⟩
end

/-! ### defs that raise -/
section
variable {P : Program} {w : World} {K : PySem.W.Frag} {mg : Str → Option Value} {base : Heap}
theorem Has.ofX {n : Str} {st : Stmt} {N ps : List Str} {k : Nat} {S : Spec} (D : Df K mg n st ps) (sc : FnScope N ps (defScope st)) (len : ∀ A Q R, S A Q R → A.length = ps.length)
    (body : ∀ (f : Addr) (cdv : Value) (A : Around) (outer : List Env) (s : Shared) (H : Hp) (E : XK), Room k (A.deeper (envOfC n (defScope st) s.heap.objs.size f cdv)) → ∀ Γ Q R, S Γ Q R →
      ST (cxOf (L2.CX P w) P w K mg base N n (defScope st) f cdv A outer s H E) (defBody st) (Γ ++ List.replicate (N.length - ps.length) .no) (finX Q R)) :
    Has P w K mg base (k + 1) n ps S := by
  obtain ⟨f, fd, F, hb, hm⟩ := D.ex
  refine ⟨f, fd, hm, F.kp, hb, F.okX sc (fun vs H Q E ⟨F0, A, s, r, ap, h⟩ => ?_) (fun cdv A outer s H vs Q E hr h => ?_)⟩
  · rw [r.len]; exact len _ _ _ h
  · obtain ⟨F0, A0, sm, r, ap, h⟩ := h
    refine ⟨_, psW, ?_⟩
    have hl := len _ _ _ h
    have L0 := lc_start (K := K) sm r ap (N.length - ps.length)
    have L1 : Lc K ⟨F0, H, MA A0⟩ F0 H (L2.start N vs) (A0 ++ List.replicate (N.length - ps.length) .no) := by
      unfold L2.start
      rw [show vs.length = ps.length from r.len.trans hl]
      exact L0
    refine body f cdv A outer s H E hr A0 _ _ h ⟨F0, H, MA A0⟩ F0 H _ _ L1 ⟨fun F' H' σ' Γ' _ hq L => ?_, fun r v F' H' hq ex ok => hq v F' H' ex ok, fun _ _ _ _ _ z => z.elim, fun _ _ _ _ _ z => z.elim, fun F1 H1 σ' Γ' x u d _ hq L ok => ?_⟩
    · exact hq .non F' H' L.ext rfl
    · exact XW.of (L2.takes_of rfl rfl rfl rfl) (hq u d F1 H1 L.ext (ok.imp fun b h => h.1))
end
end Tw

namespace Tw
open PySem PySem.Spec PyProof.Rows L2 TL

section
variable {X : Cx} {pins : List (Addr × Obj)} {σ : L2.St} {H : Hp} {s : Shared}
theorem inv_suite (I : Inv X pins σ H s) (a : Addr) : Inv (X.suite a (X.pn ++ pins)) [] σ H s :=
  ⟨I.ok.suite _ _, I.os, I.bare, I.base, I.loc, I.cell, I.free, I.freeC, fun p hp => I.pin p (by rw [List.append_nil] at hp; exact hp), I.hok, I.len⟩
theorem inv_unsuite {a : Addr} {pn' : List (Addr × Obj)} (I : Inv (X.suite a (X.pn ++ pins)) pn' σ H s) (ok : X.Ok) : Inv X pins σ H s :=
  ⟨ok, I.os, I.bare, I.base, I.loc, I.cell, I.free, I.freeC, fun p hp => I.pin p (List.mem_append_left _ hp), I.hok, I.len⟩
/-- what is caught is tracked -/
theorem inv_caught {a : Addr} {cls : Value} {d : Option Addr} {oe : Obj} {vs : Array Value} {s0 : Shared} (I : Inv X pins σ H s) (J : Inv X pins σ H s0) (h0 : s0.heap.get? a = none) (na : H a = none) (nL : a ≠ X.env.locals) (e : s.heap.get? a = some oe) (z : Zc cls d oe) (hd : oe.data = .fields vs) : Inv X pins σ (upd H a (ErrO cls d a)) s := by
  have n0 : ∀ b o, X.s_0.heap.get? b = some o → b ∉ X.ex → b ≠ a := fun b o q hx z => by
    subst z
    obtain ⟨o', q'⟩ := J.base.there b o q hx
    rw [h0] at q'; cases q'
  have nH : ∀ b o, H b = some o → b ≠ a := fun b o q z => by rw [z, na] at q; cases q
  refine ⟨I.ok, I.os, I.bare, ⟨I.base.keep, I.base.slot, fun b o q n hx => ?_, I.base.there, fun b xs q => ?_, fun b o v q => ?_, fun b ps q => ?_⟩, I.loc, I.cell, ?_, fun x c q => ?_, fun p hp => ?_, ?_, I.len⟩
  · rw [upd_ne (n0 b o q hx)]; exact I.base.free b o q n hx
  · have := I.base.tups b xs q
    rw [upd_ne (nH _ _ this)]; exact this
  · have := I.base.frzs b o v q
    rw [upd_ne (nH _ _ this)]; exact this
  · obtain ⟨m, this⟩ := I.base.tbls b ps q
    exact ⟨m, by rw [upd_ne (nH _ _ this)]; exact this⟩
  · rw [upd_ne (Ne.symm nL)]; exact I.free
  · have nc : c ≠ a := fun y => by
      obtain ⟨v, o', q1, q2⟩ := I.cell x c q
      rw [y, e] at q1
      cases q1
      rw [hd] at q2; cases q2
    rw [upd_ne nc]; exact I.freeC x c q
  · obtain ⟨p1, p2, p3, p4, p5⟩ := I.pin p hp
    obtain ⟨q1, _⟩ := J.pin p hp
    have np : p.1 ≠ a := fun y => by rw [y, h0] at q1; cases q1
    exact ⟨p1, by rw [upd_ne np]; exact p2, p3, p4, p5⟩
  · intro b o q
    by_cases hb : b = a
    · subst hb
      rw [upd_same] at q
      cases q
      exact errO_ok e z hd
    · rw [upd_ne hb] at q
      exact (I.hok b o q).stay (fun _ _ _ r => r) (fun c r => by rw [upd_ne (nH _ _ r)]; exact r) fun c xs r => by rw [upd_ne (nH _ _ r)]; exact r
end

/-- what the clause 'except x as n' wishes, the exception tracked -/
def wKept (K : PySem.W.Frag) (c : Value) (i : Nat) (ts : Addr → TS) (Wout : WX) (D : Ends) : WX := fun cls d σ H =>
  ∃ b, PySem.W.exmOne K cls c = some b ∧ (b = true → ∀ a, H a = none → ts a { nx := fun σ' H' => D.nx (σ'.set i none) H', rt := D.rt, bk := fun σ' H' => D.bk (σ'.set i none) H', ct := fun σ' H' => D.ct (σ'.set i none) H' } (σ.set i (some (.ref a))) (upd H a (ErrO cls d a))) ∧
    (b = false → Wout cls d σ H)
section
variable {X : Cx} {x n : Str} {c : Value} {i : Nat} {body suite : List Stmt} {b₀ : Stmt} {np pos pos' : Pos} {tb : WX → TS} {ts : Addr → TS} {Wout : WX}
theorem ps_try_kept (hs : X.stack = X.env :: X.outer) (hf : X.env.frame = some X.env.locals) (hN : X.N.Nodup) (hi : X.N[i]? = some n) (hln : X.env.kindOf n = some .local) (hc : Names X x c) (tk : Takes X Wout)
    (hb : ∀ (W : WX) (pn : List (Addr × Obj)) (xe : Value → Shared → Prop), Takes (X.tr pn xe) W → PassesOwn (model X.prog X.w) X.A X.env xe → PSs (X.tr pn xe) body (tb W))
    (hsu : ∀ (a : Addr) (pn : List (Addr × Obj)), PSs (X.suite a pn) (b₀ :: suite) (ts a)) :
    PS X (.Try body [.ExceptHandler (some (.Name x np)) (some n) (b₀ :: suite) pos'] [] [] pos) (fun D σ H => tb (wKept X.K c i ts Wout D) D σ H) := by
  refine ⟨fun pins s σ H D I h => ?_⟩
  have ok := I.ok
  have hfr : X.A.frames = some (X.env :: X.outer) := by rw [ok.frames, hs]
  have hloc : L2.Loc X.env.scope n := .inl hln
  refine wpAny_Try_except ?_
  refine wpAny_mono ((hb (wKept X.K c i ts Wout D) (X.pn ++ pins) (fun e s₁ => wpAny (model X.prog X.w) X.A (noteFrame e X.env) (fun _ s₂ => wpAny (model X.prog X.w) X.A (setFlight e none) (fun _ s₃ =>
    wpAny (model X.prog X.w) X.A (handleBy e X.env [.ExceptHandler (some (.Name x np)) (some n) (b₀ :: suite) pos']) (SP X pins D) X.xe s₃) X.xe s₂) X.xe s₁) (fun u s' xx => ?_) PassesOwn.looking).run [] s σ H D (I.toTry _) h) (fun f s1 hsp => ?_) (fun e s1 he => he)
  · obtain ⟨a, B, sI, pins', σ', H', cls, d, rfl, J', nb, up, sky, na, os, ag, b, hb1, hyes, hno⟩ := xx
    have J : Inv X pins σ' H' sI := J'.ofTry ok
    have sky' : Sky B (X.env :: X.outer) a (Zc cls d) X.env.locals s'.heap := by rw [← hs]; exact sky
    show wpAny (model X.prog X.w) X.A (noteFrame (.ref a) X.env) _ _ _
    refine Sky.land Zc.steady hfr hf sky' fun h3 fl3 up3 => ?_
    have J3 : Inv X pins σ' H' { s' with heap := h3 } := J.landed nb fl3.1 (up.trans up3) os ag
    obtain ⟨oe3, vs3, he3, hz3, hd3⟩ := fl3.there
    have notFr : ∀ {h : Heap} {o : Obj} {vs : Array Value}, h.FunFrames B (X.env :: X.outer) → h.get? a = some o → o.data = .fields vs → a ∉ frs (X.env :: X.outer) := fun {h o vs} ff e dd hm => by
      obtain ⟨_, o', e', hnf⟩ := ff.mem hm
      rw [e] at e'; cases e'
      exact hnf _ dd
    have nfr := notFr fl3.2.2.1 he3 hd3
    have nL : a ≠ X.env.locals := fun z => nfr (List.mem_filterMap.mpr ⟨X.env, List.mem_cons_self, by rw [hf, z]⟩)
    have nF : a ∉ X.fs := fun hm => by
      obtain ⟨e, he, q⟩ := List.mem_filterMap.mp hm
      exact nfr (List.mem_filterMap.mpr ⟨e, List.mem_cons_of_mem _ he, q⟩)
    have nI : sI.heap.get? a = none := by
      cases q : sI.heap.get? a with
      | none => rfl
      | some o =>
        have z := nb a o q (by rw [hs]; exact nfr)
        rw [fl3.2.1] at z; cases z
    have S3 := J3.suite he3 hd3 na nL nF
    refine wpAny_handleBy_cons (codeAny_handlers_test ?_) (by intro q; cases q)
    have LT : PySem.W.Looks (model X.prog X.w) h3 (typeOf (.ref a)) cls := fun A Q E s k q => wpAny_typeOf_ref (k _ _ he3) (by rw [hz3.1]; exact q)
    have LM := PySem.W.exm_one (M := model X.prog X.w) (J3.kIn) LT hb1
    have test : ∀ {Q : Value → Shared → Prop} {E : Value → Shared → Prop}, Q c { s' with heap := h3 } → wpAny (model X.prog X.w) (X.A.mark (some (.ref a))) (eval (.Name x np) X.env) Q E { s' with heap := h3 } := fun {Q E} q => by
      obtain ⟨hg, hdbg, hm | ⟨hm, hv, hnn⟩⟩ := hc
      · exact ld_glob (X := X.suite a ((a, oe3) :: (X.pn ++ pins))) S3 hg hm q hdbg
      · exact ld_blt (X := X.suite a ((a, oe3) :: (X.pn ++ pins))) S3 hg hm hv q hnn hdbg
    refine test (LM.here ?_)
    cases b with
    | true =>
      refine codeAny_handlers_suite_as ?_
      refine HandSPX.lands_againZ fl3 fun h4 fl4 up4 => ?_
      have J4 : Inv X pins σ' H' { s' with heap := h4 } := J.landed nb fl4.1 ((up.trans up3).trans up4) os ag
      obtain ⟨oe4, vs4, he4, hz4, hd4⟩ := fl4.there
      have JT : Inv X pins σ' (upd H' a (ErrO cls d a)) { s' with heap := h4 } := inv_caught J4 J nI na nL he4 hz4 hd4
      have S4 := inv_suite JT a
      refine store_ok (X := X.suite a (X.pn ++ pins)) (v := .ref a) S4 hN hi hloc rfl (fun s5 S5 => ?_) (.inr hln)
      refine wpAny_mono ((hsu a (X.pn ++ pins)).run [] s5 _ _ _ S5 (hyes rfl a na)) (fun f s6 hsp => ?_) (fun _ _ z => False.elim z)
      have end_ : ∀ {σ6 : L2.St} {H6 : Hp} {Q : Shared → Prop}, Inv (X.suite a (X.pn ++ pins)) [] σ6 H6 s6 → (∀ s7, Inv X pins (σ6.set i none) H6 s7 → Q s7) →
          wpAny (model X.prog X.w) X.A (do bindName X.env n .none; unbindBehindTheSuite X.env n pos') (fun _ s7 => Q s7) X.xe s6 := fun {σ6 H6 Q} S6 hq => gone_ok (inv_unsuite S6 ok) hN hi hln hq
      cases f with
      | next =>
        obtain ⟨σ6, H6, S6, q6⟩ := hsp
        exact end_ S6 fun s7 J7 => ⟨_, _, J7, q6⟩
      | brk =>
        obtain ⟨σ6, H6, S6, q6⟩ := hsp
        exact end_ S6 fun s7 J7 => ⟨_, _, J7, q6⟩
      | cont =>
        obtain ⟨σ6, H6, S6, q6⟩ := hsp
        exact end_ S6 fun s7 J7 => ⟨_, _, J7, q6⟩
      | ret u =>
        obtain ⟨v6, σ6, H6, S6, r6, q6⟩ := hsp
        exact end_ S6 fun s7 J7 => ⟨_, _, _, J7, r6, q6⟩
    | false =>
      show wpAny _ X.A (handleBy (.ref a) X.env []) _ _ _
      refine wpAny_handleBy_nil ?_
      obtain ⟨k1, k2, k3, oe, vs, T, oT, ts', he, hz, hd, h1, hr⟩ := id fl3
      unfold PySem.passOn
      refine wpAny_bind (wpAny_field he hd h1 ?_)
      rw [if_neg (show ¬ ((Value.ref T == Value.none) = true) from by simp)]
      have fin : wpAny (model X.prog X.w) X.A (setFlight (.ref a) X.env.frame) (fun _ s4 => wpAny (model X.prog X.w) X.A (throw (.ref a) : Sem Flow) (SP X pins D) X.xe s4) X.xe { s' with heap := h3 } := by
        rw [hf]
        refine HandSPX.setFlight_upZ fl3 fun h4 hh4 up4 => wpAny_throw (tk _ _ ?_)
        exact ⟨a, B, sI, pins, σ', H', cls, d, rfl, J, nb, (up.trans up3).trans up4, .inr (.inr (by rw [hs]; exact hh4)), na, os, ag, hno rfl⟩
      first
        | exact wpAny_bind (wpAny_pure (wpAny_bind fin))
        | exact wpAny_bind fin
  · cases f with
    | next =>
      obtain ⟨σ', H', J', q⟩ := hsp
      exact wpAny_execs_nil ⟨σ', H', J'.ofTry ok, q⟩
    | brk =>
      obtain ⟨σ', H', J', q⟩ := hsp
      exact ⟨σ', H', J'.ofTry ok, q⟩
    | cont =>
      obtain ⟨σ', H', J', q⟩ := hsp
      exact ⟨σ', H', J'.ofTry ok, q⟩
    | ret u =>
      obtain ⟨v, σ', H', J', r, q⟩ := hsp
      exact ⟨v, σ', H', J'.ofTry ok, r, q⟩
end
section
variable {X : Cx} {Γ : List Slot} {α β γ : Type} {pos pos' np p p2 : Pos} {E : SE} {rest body suite : List Stmt} {b₀ : Stmt}
/-- a caught exception and its dict are data from here on -/
theorem Lc.caught {K : PySem.W.Frag} {B : Bs} {F H : Hp} {σ : L2.St} {Γ : List Slot} {C : Value} {d : Option Addr} {x : Exn} {a : Addr} (L : Lc K B F H σ Γ) (ok : XOk K (fun b => B.nw b ∧ Free Γ b) F H C d x) (ha : H a = none) :
    ∃ F3, Same F F3 ∧ Lc K B F3 (upd H a (ErrO C d a)) σ Γ ∧ SlotOk K B F3 (upd H a (ErrO C d a)) (some (.ref a)) x.slot := by
  obtain ⟨C, rfl, hC, h⟩ := ok
  obtain ⟨cls, fld, why⟩ := x
  cases why with
  | no =>
    have hd : d = none := h
    subst hd
    have e2 := Ext.new (o := ErrO (.ref C) none a) L.same ha
    exact ⟨_, e2.ff, L.step e2, .ref a, rfl, a, C, rfl, upd_same, hC⟩
  | own o => exact h.elim
  | val i y =>
    obtain ⟨dx, w, rfl, ⟨nb, nf⟩, fd, hd2, r⟩ := h
    have sm : Same F (upd F dx (.xd [(fld, w)])) := fun b u q => by rw [upd_ne (ne_of_none q fd)]; exact q
    have sm2 : Same (upd F dx (.xd [(fld, w)])) H := fun b u q => by
      by_cases hb : b = dx
      · subst hb; rw [upd_same] at q; rw [← q]; exact hd2
      · rw [upd_ne hb] at q; exact L.same _ _ q
    have L1 : Lc K B (upd F dx (.xd [(fld, w)])) H σ Γ := by
      refine ⟨⟨L.ext.ff.trans sm, sm2, L.ext.hh, fun b hm h1 h2 => ?_, L.ext.th⟩, L.len, fun q t hq => ?_, L.ap⟩
      · have : b ≠ dx := fun z => by
          subst z
          exact nb.elim (fun z => h2 z) hm
        rw [upd_ne this]; exact L.ext.nwM b hm h1 h2
      · have old := L.ok q t hq
        cases t with
        | no => trivial
        | val i x => obtain ⟨v, e2, r⟩ := old; exact ⟨v, e2, i.mono sm r⟩
        | own o2 =>
          obtain ⟨u, eu, ok2, f2⟩ := old
          exact ⟨u, eu, o2.stay sm (fun _ _ _ h => h) ok2, fun b hb => ⟨by rw [upd_ne (fun (z : b = dx) => nf q o2 hq (by rw [← z]; exact hb))]; exact (f2 b hb).1, (f2 b hb).2⟩⟩
    have e2 := Ext.new (o := ErrO (.ref C) (some dx) a) sm2 ha
    refine ⟨_, sm.trans e2.ff, L1.step e2, .ref a, rfl, dx, w, ⟨a, C, rfl, upd_same, hC⟩, ?_, i.mono (sm.trans e2.ff) r⟩
    rw [upd_ne (fun z => by subst z; rw [ha] at hd2; cases hd2), upd_same]
theorem exn_own (x : Exn) : x.slot.isOwn = false := by
  obtain ⟨cls, fld, why⟩ := x
  cases why <;> rfl
/-- try: body except x as n: suite; m the place of n -/
theorem st_try (m : Nat) {x n : Str} (hN : X.N.Nodup) (hc : XC X.K X.mg x)
    (hb : ∀ pn xe, PassesOwn (model X.prog X.w) X.A X.env xe → ST (X.tr pn xe) body Γ { E with nx := fun Γ' => ST X rest Γ' E, ex := fun Γ' y => (XSub X.K y.cls x true ∧ ∀ a pn, ST (X.suite a pn) (b₀ :: suite) (Γ'.set m y.slot)
        { nx := fun Γ2 => ST X rest (Γ2.set m .no) E, rt := E.rt, bk := fun Γ2 => E.bk (Γ2.set m .no), ct := fun Γ2 => E.ct (Γ2.set m .no), ex := fun _ _ => False }) ∨ (XSub X.K y.cls x false ∧ E.ex Γ' y) })
    (hi : X.N[m]? = some n := by rfl) (hln : X.env.kindOf n = some .local := by rfl) (hg : Gl X x := by rfl) (hdb : (x == ("__debug__" : Str)) = false := by decide) (hs : X.stack = X.env :: X.outer := by rfl) (hf : X.env.frame = some X.env.locals := by rfl) :
    ST X (.Try body [.ExceptHandler (some (.Name x np)) (some n) (b₀ :: suite) pos'] [] [] pos :: rest) Γ E := fun B F H σ D L ed => by
  obtain ⟨C, xC, gC⟩ := hc
  refine WP.cons (ps_try_kept (tb := fun W D σ H => ∀ pn xe, Takes (X.tr pn xe) W → PassesOwn (model X.prog X.w) X.A X.env xe → WP (X.tr pn xe) body D σ H) (ts := fun a D σ H => ∀ pn, WP (X.suite a pn) (b₀ :: suite) D σ H) hs hf hN hi hln ⟨hg, hdb, .inl gC⟩ takesW
    (fun W pn xe tk hp => ⟨fun pins s σ H D I h => (h pn xe tk hp).go pins s I⟩) (fun a pn => ⟨fun pins s σ H D I h => (h pn).go pins s I⟩)) ?_
  intro pn xe tk hp
  refine hb pn xe hp B F H σ _ L ⟨fun F1 H1 σ1 Γ1 s1 h1 L1 => h1 B F1 H1 σ1 D L1 (ed.weak s1), ed.rt, ed.bk, ed.ct, fun F1 H1 σ1 Γ1 y u d s1 h1 L1 ok => XW.of tk ?_⟩
  obtain ⟨Cy, eu, nCy, _⟩ := id ok
  rcases h1 with ⟨hsub, hsu⟩ | ⟨hsub, hE⟩
  · subst eu
    refine ⟨true, (hsub Cy C nCy xC.ns).1, fun _ a ha pn => ?_, fun z => nomatch z⟩
    obtain ⟨F3, s3, L3, so⟩ := L1.caught ok ha
    have L4 : Lc X.K B F3 _ (σ1.set m (some (.ref a))) (Γ1.set m y.slot) := L3.put m (exn_own y) so
    refine hsu a pn B F3 _ _ _ L4 ⟨fun F5 H5 σ5 Γ5 s5 h5 L5 => ?_, ed.rt, fun F5 H5 σ5 Γ5 s5 h5 L5 => ?_, fun F5 H5 σ5 Γ5 s5 h5 L5 => ?_, fun _ _ _ _ _ _ _ _ z => z.elim⟩
    · exact h5 B F5 H5 _ D (L5.putN m none) (ed.weak ((s1.trans s3).trans s5))
    · exact ed.bk F5 H5 _ _ ((s1.trans s3).trans s5) h5 (L5.putN m none)
    · exact ed.ct F5 H5 _ _ ((s1.trans s3).trans s5) h5 (L5.putN m none)
  · subst eu
    exact ⟨false, (hsub Cy C nCy xC.ns).1, (fun z => nomatch z), fun _ => ed.ex F1 H1 σ1 Γ1 y _ d s1 hE L1 ok⟩
end
end Tw

namespace Tw
open PySem PySem.Spec PyProof.Rows L2 TL

section
variable {X : Cx} {Γ : List Slot} {α β γ : Type} {i : Rep α} {j : Rep β} {l : Rep γ} {pos p p2 : Pos} {e a b c elt tg it : Expr} {es : List Expr} {E : SE} {rest body : List Stmt}

/-! ### zip, enumerate -/
theorem src_zip {xs : List α} {ys : List β} {elts : List Expr} {kk : Nat} {tpos p2 : Pos} (hm : X.mg "zip" = none) (ha : EV X Γ a xs) (hb : EV X Γ b ys) (hg : Gl X "zip" := by rfl)
    (hs : starEach [a, b] X.env = (false, eval a X.env) :: starEach [b] X.env := by exact star_of rfl) (hs2 : starEach [b] X.env = (false, eval b X.env) :: starEach [] X.env := by exact star_of rfl) (hpl : (backTo p2 (starEach [b] X.env)).any (·.1) = false := by exact pl_of rfl) : Src X Γ (.Tuple elts kk tpos) (.Call (.Name "zip" p) [a, b] [] p2) (xs.zip ys) :=
  ⟨_, pi_zip hg hm (pa_cons peW (pa_cons peW pa_nil hs2) hs) hs hpl, fun B F H σ R L q => ha B F H σ _ L fun v F1 H1 e1 r1 => hb B F1 H1 σ _ (L.step e1) fun u F2 H2 e2 r2 => by
    obtain ⟨a1, vs, rfl, h1, p1⟩ := r1
    obtain ⟨a2, ws, rfl, h2, p2⟩ := r2
    have s2 := (L.step (e1.trans e2)).same
    have h1' := e2.ff _ _ h1
    refine ⟨a1, a2, vs, ws, rfl, sq_of s2 h1', sq_of s2 h2, q _ F2 H2 (e1.trans e2) fun F3 H3 s3 s4 => ⟨fun k x hx => ?_, vs, ws, sq_of s4 (s3 _ _ h1'), sq_of s4 (s3 _ _ h2), ?_⟩⟩
    · obtain ⟨hx1, hx2⟩ := List.getElem?_zip_eq_some.mp hx
      obtain ⟨w1, hw1, r1'⟩ := pgetL p1 hx1
      obtain ⟨w2, hw2, r2'⟩ := pgetL p2 hx2
      refine ⟨⟨vs, ws, w1, w2, sq_of s4 (s3 _ _ h1'), sq_of s4 (s3 _ _ h2), hw1, hw2⟩, fun v H4 hy => ?_⟩
      obtain ⟨T, y1, y2, rfl, hT, rfl, g1, g2⟩ := hy
      have z1 : w1 = y1 := Option.some.inj (hw1.symm.trans (g1 vs (sq_of s4 (s3 _ _ h1'))))
      have z2 : w2 = y2 := Option.some.inj (hw2.symm.trans (g2 ws (sq_of s4 (s3 _ _ h2))))
      subst z1 z2
      have ea := Ext.new (o := .tup [w1, w2]) s4 hT
      exact ⟨_, ea, T, w1, w2, rfl, upd_same, i.mono (e2.ff.trans (s3.trans ea.ff)) r1', j.mono (s3.trans ea.ff) r2'⟩
    · rw [List.length_zip, Paired.length p1, Paired.length p2]; omega⟩
/-- a list's items with their numbers -/
def enumL {A : Type} (xs : List A) : List (Int × A) := (xs.zipIdx).map fun p => ((p.2 : Int), p.1)
theorem enumL_get {A : Type} {xs : List A} {k : Nat} {x : Int × A} (h : (enumL xs)[k]? = some x) : x.1 = (k : Int) ∧ xs[k]? = some x.2 := by
  unfold enumL at h
  rw [List.getElem?_map, List.getElem?_zipIdx] at h
  cases q : xs[k]? with
  | none => rw [q] at h; cases h
  | some y =>
    rw [q] at h
    have : x = ((k : Int), y) := by simpa using h.symm
    rw [this]
    exact ⟨rfl, rfl⟩
theorem enumL_len {A : Type} {xs : List A} : (enumL xs).length = xs.length := by unfold enumL; simp
theorem src_enum {xs : List α} {elts : List Expr} {kk : Nat} {tpos p2 : Pos} (hm : X.mg "enumerate" = none) (ha : EV X Γ a xs) (hg : Gl X "enumerate" := by rfl) (hs : starEach [a] X.env = [(false, eval a X.env)] := by exact star_of rfl) : Src X Γ (.Tuple elts kk tpos) (.Call (.Name "enumerate" p) [a] [] p2) (enumL xs) :=
  ⟨_, pi_enum hg hm (pa_cons peW pa_nil hs) hs, fun B F H σ R L q => ha B F H σ _ L fun v F1 H1 e1 r1 => by
    obtain ⟨a1, vs, rfl, h1, p1⟩ := r1
    have s2 := (L.step e1).same
    refine ⟨a1, vs, rfl, sq_of s2 h1, q _ F1 H1 e1 fun F3 H3 s3 s4 => ⟨fun k x hx => ?_, vs, sq_of s4 (s3 _ _ h1), ?_⟩⟩
    · obtain ⟨n, y⟩ := x
      obtain ⟨hx1, hx2⟩ := enumL_get hx
      obtain ⟨w1, hw1, r1'⟩ := pgetL p1 hx2
      refine ⟨⟨vs, w1, sq_of s4 (s3 _ _ h1), hw1⟩, fun v H4 hy => ?_⟩
      obtain ⟨T, y1, rfl, hT, rfl, g1⟩ := hy
      have z1 : w1 = y1 := Option.some.inj (hw1.symm.trans (g1 vs (sq_of s4 (s3 _ _ h1))))
      subst z1
      have ea := Ext.new (o := .tup [.int (k : Nat), w1]) s4 hT
      exact ⟨_, ea, T, .int (k : Nat), w1, rfl, upd_same, (show V.int (k : Nat) = V.int n by rw [show n = (k : Int) from hx1]), i.mono (s3.trans ea.ff) r1'⟩
    · rw [enumL_len, Paired.length p1]; exact Nat.le_refl _⟩

/-! ### lists put together, pairs -/
theorem en_addL {xs ys : List α} (ha : EV X Γ a xs) (hb : EV X Γ b ys) (hz : xs.length + ys.length ≤ sizeLine) : EN X Γ (.BinOp a .Add b pos) (xs ++ ys) := fun B F H σ Q L q =>
  WE.of (pe_op op_cat peW peW) (ha B F H σ _ L fun v F1 H1 e1 r1 => hb B F1 H1 σ _ (L.step e1) fun u F2 H2 e2 r2 => by
    obtain ⟨a1, vs, rfl, h1, p1⟩ := r1
    obtain ⟨a2, ws, rfl, h2, p2⟩ := r2
    have e12 := e1.trans e2
    have s2 := (L.step e12).same
    refine ⟨a1, a2, vs, ws, rfl, rfl, s2 _ _ (e2.ff _ _ h1), s2 _ _ h2, by rw [Paired.length p1, Paired.length p2]; exact hz, fun p hp => ?_⟩
    exact q p (vs ++ ws) F2 _ (e12.trans (Ext.apart s2 hp)) (e12.hs.free hp) (s2.free hp) upd_same (papp (Paired.mapP p1 fun _ _ z => i.mono e2.ff z) p2))
theorem ev_lenP {x : α × β} (hm : X.mg "len" = none) (h : EV X Γ e x) (hg : Gl X "len" := by rfl) (hs : starEach [e] X.env = (false, eval e X.env) :: starEach [] X.env := by exact star_of rfl) (hpl : (backTo pos (starEach [] X.env)).any (·.1) = false := by exact pl_of rfl) :
    EV X Γ (.Call (.Name "len" p) [e] [] pos) (2 : Int) :=
  ev_callB1 call_len_seq hm PySem.boot_len h (fun F H v Q s r q => by
    obtain ⟨a, u, w, rfl, ha, _⟩ := r
    exact ⟨a, [u, w], rfl, .inr (st_of s ha), q _ F H (Ext.refl s) rfl⟩) hg (by decide) (by decide) hs hpl
theorem ev_fst {x : α × β} {k} (ha : EV X Γ a x) (hp : PlainIx (.Constant (.int 0) k p) := by intro _ _; rfl) : EV X Γ (.Subscript a (.Constant (.int 0) k p) pos) x.1 := fun B F H σ Q L q =>
  WE.of (pe_ix ix_tup peW pe_int hp) (ha B F H σ _ L fun v F1 H1 e1 r1 => by
    obtain ⟨ad, u, w, rfl, h1, r1, r2⟩ := r1
    exact ⟨ad, [u, w], 0, u, rfl, rfl, st_of (L.step e1).same h1, rfl, q u F1 H1 e1 r1⟩)
theorem ev_snd {x : α × β} {k} (ha : EV X Γ a x) (hp : PlainIx (.Constant (.int 1) k p) := by intro _ _; rfl) : EV X Γ (.Subscript a (.Constant (.int 1) k p) pos) x.2 := fun B F H σ Q L q =>
  WE.of (pe_ix ix_tup peW pe_int hp) (ha B F H σ _ L fun v F1 H1 e1 r1 => by
    obtain ⟨ad, u, w, rfl, h1, r1, r2⟩ := r1
    exact ⟨ad, [u, w], 1, w, rfl, rfl, st_of (L.step e1).same h1, rfl, q w F1 H1 e1 r2⟩)

/-! ### a pair of own lists -/
def ownP {α β : Type} (i : Rep α) (j : Rep β) (a l m : Addr) (xs : List α) (ys : List β) : Own where
  fp := [a, l, m]
  root := .ref a
  ok := fun K F H v => v = .ref a ∧ (a ≠ l ∧ a ≠ m ∧ l ≠ m) ∧ H a = some (.tup [.ref l, .ref m]) ∧ (∃ vs, H l = some (.lst vs) ∧ Paired (fun u x => i.rp K F u x) vs xs) ∧ ∃ ws, H m = some (.lst ws) ∧ Paired (fun u x => j.rp K F u x) ws ys
  stay := fun s k ⟨e, n, h, ⟨vs, h1, p1⟩, ws, h2, p2⟩ => ⟨e, n, k a (by simp) _ h, ⟨vs, k l (by simp) _ h1, Paired.mapP p1 fun _ _ q => i.mono s q⟩, ws, k m (by simp) _ h2, Paired.mapP p2 fun _ _ q => j.mono s q⟩
  there := fun ⟨_, _, h, ⟨vs, h1, _⟩, ws, h2, _⟩ b hb z => by
    have hb' : b = a ∨ b = l ∨ b = m := by simpa using hb
    rcases hb' with rfl | rfl | rfl
    · rw [h] at z; cases z
    · rw [h1] at z; cases z
    · rw [h2] at z; cases z
  rt := fun h => h.1
def OwnP {α β : Type} (i : Rep α) (j : Rep β) (xs : List α) (ys : List β) : Own → Prop := fun o => ∃ a l m, o = ownP i j a l m xs ys
theorem frozP {ad l m : Addr} {xs : List α} {ys : List β} : Froz (ownP i j ad l m xs ys) (xs, ys) := fun {K F H v} s ⟨e, n, h, ⟨vs, h1, p1⟩, ws, h2, p2⟩ f =>
  ⟨ad, .ref l, .ref m, e, (frz_in (ps := [ad, l, m]) (by simp)).trans h, ⟨l, vs, rfl, (frz_in (ps := [ad, l, m]) (by simp)).trans h1, Paired.mapP p1 fun _ _ q => i.mono (frz_le f) q⟩, m, ws, rfl, (frz_in (ps := [ad, l, m]) (by simp)).trans h2, Paired.mapP p2 fun _ _ q => j.mono (frz_le f) q⟩
/-- (e1, e2), two new lists -/
theorem ex_pairN {x1} {xs : List α} {ys : List β} (ha : EN X Γ a xs) (hb : EN X Γ b ys) (hs : starEach [a, b] X.env = (false, eval a X.env) :: starEach [b] X.env := by exact star_of rfl) (hs2 : starEach [b] X.env = (false, eval b X.env) :: starEach [] X.env := by exact star_of rfl) : EX X Γ (.Tuple [a, b] x1 pos) (fun r => r = .own (OwnP i j xs ys)) := fun B F H σ Q L q =>
  WE.of (pe_tup (pa_cons peW (pa_cons peW pa_nil hs2) hs)) (ha B F H σ _ L fun a1 vs F1 H1 e1 n1 f1 h1 p1 => hb B F1 H1 σ _ (L.step e1) fun a2 ws F2 H2 e2 n2 f2 h2 p2 => ⟨by show 2 ≤ sizeLine; decide, fun p hp => by
    have e12 := e1.trans e2
    have s2 := (L.step e12).same
    have h1' := e2.hs _ _ h1
    have g1 : F2 a1 = none := e2.nw a1 f1 (by rw [h1]; exact fun z => nomatch z)
    have ne1 : p ≠ a1 := fun z => by rw [z, h1'] at hp; cases hp
    have ne2 : p ≠ a2 := fun z => by rw [z, h2] at hp; cases hp
    have ne3 : a1 ≠ a2 := fun z => by rw [z] at h1; rw [n2] at h1; cases h1
    have e3 := e12.trans (Ext.apart (o := .tup [.ref a1, .ref a2]) s2 hp)
    refine q _ (.ref p) F2 _ rfl e3 ⟨ownP i j p a1 a2 xs ys, ⟨p, a1, a2, rfl⟩, fun b hb => ?_, rfl, ⟨ne1, ne2, ne3⟩, upd_same, ⟨vs, by rw [upd_ne (Ne.symm ne1)]; exact h1', Paired.mapP p1 fun _ _ z => i.mono e2.ff z⟩, ws, by rw [upd_ne (Ne.symm ne2)]; exact h2, p2⟩
    have hb' : b = p ∨ b = a1 ∨ b = a2 := by
      have : b ∈ [p, a1, a2] := hb
      simpa using this
    rcases hb' with rfl | rfl | rfl
    · exact ⟨e12.hs.free hp, s2.free hp⟩
    · exact ⟨n1, g1⟩
    · exact ⟨e1.hs.free n2, f2⟩⟩)
/-- found[0].append(e) -/
theorem st_appendP0 (k : Nat) {n : Str} {ad l m : Addr} {xs : List α} {ys : List β} {x : α} {kk} {q1 q2 q3 : Pos} {apos cpos : Pos} (he : EV X Γ e x) (hr : ST X rest (Γ.set k (.own (ownP i j ad l m (xs ++ [x]) ys))) E) (hz : xs.length < sizeLine) (hg : Γ[k]? = some (.own (ownP i j ad l m xs ys)) := by rfl) (hN : X.N[k]? = some n := by rfl)
    (hv : Vis X.env.scope n := by first | exact Or.inl rfl | exact Or.inr (Or.inl rfl) | exact Or.inr (Or.inr rfl)) (hd : (n == ("__debug__" : Str)) = false := by decide) (hcd : (n == ("__classdict__" : Str)) = false := by decide) (hp : PlainIx (.Constant (.int 0) kk q2) := by intro _ _; rfl)
    (hbase : attributeBase (.Subscript (.Name n q1) (.Constant (.int 0) kk q2) q3) "append" X.env (eval (.Subscript (.Name n q1) (.Constant (.int 0) kk q2) q3) X.env) = eval (.Subscript (.Name n q1) (.Constant (.int 0) kk q2) q3) X.env := by rfl)
    (hfew : ((backTo cpos (starEach [e] X.env)).all (fun x => !x.1) && (backToKw cpos (keywordEach [] X.env)).all (fun x => x.1.isSome) && decide ([e].length + ([] : List Keyword).length + (if ([] : List Keyword).isEmpty then 0 else 1) < 30)) = true := by rfl)
    (hline : (apos.endLine == cpos.line) = true := by rfl) (hs : starEach [e] X.env = (false, eval e X.env) :: starEach [] X.env := by exact star_of rfl) (hplain : (backTo cpos (starEach [] X.env)).any (·.1) = false := by rfl)
    (hsw : swapsWith (.Call (.Attribute (.Subscript (.Name n q1) (.Constant (.int 0) kk q2) q3) "append" apos) [e] [] cpos) none pos.line X.env = pure false := by rfl) :
    ST X (.Expr (.Call (.Attribute (.Subscript (.Name n q1) (.Constant (.int 0) kk q2) q3) "append" apos) [e] [] cpos) pos :: rest) Γ E := fun B F H σ D L ed => by
  obtain ⟨v, ev, ⟨rfl, nn, h, ⟨vs, h1, p1⟩, ws, h2, p2⟩, f⟩ := slot_own L hg
  refine WP.cons (ps_expr (pe_bm PySem.F.plainAttrs_list PySem.F.slot_list_append PySem.F.type_list_append mt_append (pe_ix ix_tup (pe_var hN hv hd hcd) pe_int hp) (pa_cons peW pa_nil hs) hbase hfew hline hs hplain) hsw) ?_
  refine ⟨.ref ad, ev, ad, [.ref l, .ref m], 0, .ref l, rfl, rfl, .inl (.inl h), rfl, .inl ⟨rfl, _, .inl (.inl h1)⟩, he B F H σ _ L fun v F1 H1 e1 r1 => ?_⟩
  have L1 := L.step e1
  obtain ⟨v', ev', ⟨rfl, _, h', ⟨vs', h1', p1'⟩, ws', h2', p2'⟩, f'⟩ := slot_own L1 hg
  refine ⟨l, vs', v, rfl, rfl, h1', by rw [Paired.length p1']; exact hz, ?_⟩
  refine hr B F1 _ σ D (L1.updO hg ev (fun b u hb q => ?_) (fun b hb => ?_) (fun b hb => .inl hb) ⟨rfl, nn, ?_, ⟨vs' ++ [v], upd_same, papp p1' (.cons r1 .nil)⟩, ws', ?_, p2'⟩) (ed.weak e1.ff)
  · rw [upd_ne (fun z => hb (by rw [z]; show l ∈ [ad, l, m]; simp))]; exact q
  · by_cases hbl : b = l
    · rw [hbl, upd_same]; exact fun z => nomatch z
    · rw [upd_ne hbl]
      have hb' : b = ad ∨ b = l ∨ b = m := by
        have : b ∈ [ad, l, m] := hb
        simpa using this
      rcases hb' with rfl | rfl | rfl
      · rw [h']; exact fun z => nomatch z
      · exact absurd rfl hbl
      · rw [h2']; exact fun z => nomatch z
  · rw [upd_ne nn.1]; exact h'
  · rw [upd_ne (Ne.symm nn.2.2)]; exact h2'
theorem st_appendP1 (k : Nat) {n : Str} {ad l m : Addr} {xs : List α} {ys : List β} {x : β} {kk} {q1 q2 q3 : Pos} {apos cpos : Pos} (he : EV X Γ e x) (hr : ST X rest (Γ.set k (.own (ownP i j ad l m xs (ys ++ [x])))) E) (hz : ys.length < sizeLine) (hg : Γ[k]? = some (.own (ownP i j ad l m xs ys)) := by rfl) (hN : X.N[k]? = some n := by rfl)
    (hv : Vis X.env.scope n := by first | exact Or.inl rfl | exact Or.inr (Or.inl rfl) | exact Or.inr (Or.inr rfl)) (hd : (n == ("__debug__" : Str)) = false := by decide) (hcd : (n == ("__classdict__" : Str)) = false := by decide) (hp : PlainIx (.Constant (.int 1) kk q2) := by intro _ _; rfl)
    (hbase : attributeBase (.Subscript (.Name n q1) (.Constant (.int 1) kk q2) q3) "append" X.env (eval (.Subscript (.Name n q1) (.Constant (.int 1) kk q2) q3) X.env) = eval (.Subscript (.Name n q1) (.Constant (.int 1) kk q2) q3) X.env := by rfl)
    (hfew : ((backTo cpos (starEach [e] X.env)).all (fun x => !x.1) && (backToKw cpos (keywordEach [] X.env)).all (fun x => x.1.isSome) && decide ([e].length + ([] : List Keyword).length + (if ([] : List Keyword).isEmpty then 0 else 1) < 30)) = true := by rfl)
    (hline : (apos.endLine == cpos.line) = true := by rfl) (hs : starEach [e] X.env = (false, eval e X.env) :: starEach [] X.env := by exact star_of rfl) (hplain : (backTo cpos (starEach [] X.env)).any (·.1) = false := by rfl)
    (hsw : swapsWith (.Call (.Attribute (.Subscript (.Name n q1) (.Constant (.int 1) kk q2) q3) "append" apos) [e] [] cpos) none pos.line X.env = pure false := by rfl) :
    ST X (.Expr (.Call (.Attribute (.Subscript (.Name n q1) (.Constant (.int 1) kk q2) q3) "append" apos) [e] [] cpos) pos :: rest) Γ E := fun B F H σ D L ed => by
  obtain ⟨v, ev, ⟨rfl, nn, h, ⟨vs, h1, p1⟩, ws, h2, p2⟩, f⟩ := slot_own L hg
  refine WP.cons (ps_expr (pe_bm PySem.F.plainAttrs_list PySem.F.slot_list_append PySem.F.type_list_append mt_append (pe_ix ix_tup (pe_var hN hv hd hcd) pe_int hp) (pa_cons peW pa_nil hs) hbase hfew hline hs hplain) hsw) ?_
  refine ⟨.ref ad, ev, ad, [.ref l, .ref m], 1, .ref m, rfl, rfl, .inl (.inl h), rfl, .inl ⟨rfl, _, .inl (.inl h2)⟩, he B F H σ _ L fun v F1 H1 e1 r1 => ?_⟩
  have L1 := L.step e1
  obtain ⟨v', ev', ⟨rfl, _, h', ⟨vs', h1', p1'⟩, ws', h2', p2'⟩, f'⟩ := slot_own L1 hg
  refine ⟨m, ws', v, rfl, rfl, h2', by rw [Paired.length p2']; exact hz, ?_⟩
  refine hr B F1 _ σ D (L1.updO hg ev (fun b u hb q => ?_) (fun b hb => ?_) (fun b hb => .inl hb) ⟨rfl, nn, ?_, ⟨vs', ?_, p1'⟩, ws' ++ [v], upd_same, papp p2' (.cons r1 .nil)⟩) (ed.weak e1.ff)
  · rw [upd_ne (fun z => hb (by rw [z]; show m ∈ [ad, l, m]; simp))]; exact q
  · by_cases hbl : b = m
    · rw [hbl, upd_same]; exact fun z => nomatch z
    · rw [upd_ne hbl]
      have hb' : b = ad ∨ b = l ∨ b = m := by
        have : b ∈ [ad, l, m] := hb
        simpa using this
      rcases hb' with rfl | rfl | rfl
      · rw [h']; exact fun z => nomatch z
      · rw [h1']; exact fun z => nomatch z
      · exact absurd rfl hbl
  · rw [upd_ne nn.2.1]; exact h'
  · rw [upd_ne nn.2.2]; exact h1'

/-! ### new things handed over -/
def EAo (X : Cx) (Γ : List Slot) (es : List Expr) (P : List Slot → Prop) : Prop :=
  ∀ B F H σ Q, Lc X.K B F H σ Γ → (∀ vs A F' H', P A → Ext F H F' H' → VsOkO X.K F' H' vs A → Apart A → (∀ b, MA A b → H b = none) → Q vs H') → WA X es σ H Q
theorem MA_cons {s : Slot} {A : List Slot} {b : Addr} (h : MA (s :: A) b) : (∃ o, s = .own o ∧ b ∈ o.fp) ∨ MA A b := by
  obtain ⟨o, h1, h2⟩ := h
  rcases List.mem_cons.mp h1 with z | z
  · exact .inl ⟨o, z.symm, h2⟩
  · exact .inr ⟨o, z, h2⟩
theorem Apart.tail {s : Slot} {A : List Slot} (h : Apart A) (hs : ∀ o, s = .own o → ∀ b ∈ o.fp, ¬ MA A b) : Apart (s :: A) := fun x y o1 o2 hxy h1 h2 b hb1 hb2 => by
  cases x with
  | zero =>
    cases y with
    | zero => exact hxy rfl
    | succ y => exact hs o1 (Option.some.inj h1) b hb1 ⟨o2, List.mem_of_getElem? (by simpa using h2), hb2⟩
  | succ x =>
    cases y with
    | zero => exact hs o2 (Option.some.inj h2) b hb2 ⟨o1, List.mem_of_getElem? (by simpa using h1), hb1⟩
    | succ y => exact h x y o1 o2 (fun z => hxy (by rw [z])) (by simpa using h1) (by simpa using h2) b hb1 hb2
theorem eao_nil : EAo X Γ [] (fun A => A = []) := fun B F H σ Q L q => WA.of pa_nil (q [] [] F H rfl (Ext.refl L.same) trivial (fun x y o1 o2 _ h1 _ => by cases h1) fun b h => by obtain ⟨_, z, _⟩ := h; cases z)
theorem eao_v {x : α} {P : List Slot → Prop} (h : EV X Γ e x) (hr : EAo X Γ es P) (hs : starEach (e :: es) X.env = (false, eval e X.env) :: starEach es X.env := by exact star_of rfl) : EAo X Γ (e :: es) (fun A => ∃ A', A = .val i x :: A' ∧ P A') := fun B F H σ Q L q =>
  WA.of (pa_cons peW paW hs) (h B F H σ _ L fun v F1 H1 e1 r1 => hr B F1 H1 σ _ (L.step e1) fun vs A F2 H2 hP e2 ok ap n => q (v :: vs) (.val i x :: A) F2 H2 ⟨A, rfl, hP⟩ (e1.trans e2) ⟨i.mono e2.ff r1, ok⟩ (ap.tail fun o z => nomatch z) fun b m => by
    rcases MA_cons m with ⟨o, z, _⟩ | m
    · cases z
    · exact e1.hs.free (n b m))
theorem eao_o {P0 : Own → Prop} {P : List Slot → Prop} (h : EX X Γ e (fun r => r = .own P0)) (hr : EAo X Γ es P) (hs : starEach (e :: es) X.env = (false, eval e X.env) :: starEach es X.env := by exact star_of rfl) : EAo X Γ (e :: es) (fun A => ∃ o A', A = .own o :: A' ∧ P0 o ∧ P A') := fun B F H σ Q L q =>
  WA.of (pa_cons peW paW hs) (h B F H σ _ L fun r v F1 H1 er e1 r1 => by
    subst er
    obtain ⟨o, hP0, f, ok1⟩ := r1
    refine hr B F1 H1 σ _ (L.step e1) fun vs A F2 H2 hP e2 ok ap n => q (v :: vs) (.own o :: A) F2 H2 ⟨o, A, rfl, hP0, hP⟩ (e1.trans e2) ⟨o.stay e2.ff (fun b _ u z => e2.hs _ _ z) ok1, fun b hb => e2.nw b (f b hb).2 (o.there ok1 b hb), ok⟩ (ap.tail fun o' z b hb m => ?_) fun b m => ?_
    · cases z
      exact o.there ok1 b hb (n b m)
    · rcases MA_cons m with ⟨o', z, hb⟩ | m
      · cases z
        exact (f b hb).1
      · exact e1.hs.free (n b m))
theorem exo_new {xs : List α} (h : EN X Γ e xs) : EX X Γ e (fun r => r = .own fun o => ∃ a, o = ownL i a xs) := fun B F H σ Q L q =>
  h B F H σ _ L fun a vs F1 H1 e1 n1 f1 h1 p1 => q _ (.ref a) F1 H1 rfl e1 ⟨ownL i a xs, ⟨a, rfl⟩, fun b hb => by rw [List.mem_singleton.mp hb]; exact ⟨n1, f1⟩, rfl, vs, h1, p1⟩
theorem ex_callO {n : Str} {k : Nat} {ps : List Str} {S : Spec} {PA : List Slot → Prop} {P : Ret → Prop} (G : Has X.prog X.w X.K X.mg X.base k n ps S) (hr : Room k X.A) (ha : EAo X Γ (e :: es) PA)
    (hS : ∀ A, PA A → ∀ P' R', (∀ r, P r → P' r) → S A P' R') (hg : Gl X n := by rfl) (hd : (n == ("__debug__" : Str)) = false := by decide)
    (he : starEach (e :: es) X.env = (false, eval e X.env) :: starEach es X.env := by exact star_of rfl) (hpl : (backTo pos (starEach es X.env)).any (·.1) = false := by exact pl_of rfl) : EX X Γ (.Call (.Name n p) (e :: es) [] pos) P := fun B F H σ Q L q => by
  obtain ⟨f, fd, hm, hk, hb, G⟩ := G.ex
  refine WE.of (pe_call G hr hg hm hk hb .nil passL paW hd he hpl) (ha B F H σ _ L fun vs A F1 H1 hP e1 r1 ap n1 => ?_)
  rw [List.append_nil]
  exact ⟨F1, A, (L.step e1).same, r1, ap, hS A hP _ _ fun r hr v F2 H2 e2 ok => q r v F2 H2 hr (e1.thenM e2 n1) (ok.imp fun b h => h.elim (fun z => e1.hs.free z) fun m => n1 b m)⟩
theorem ev_callO {n : Str} {k : Nat} {ps : List Str} {S : Spec} {PA : List Slot → Prop} {x : α} (G : Has X.prog X.w X.K X.mg X.base k n ps S) (hr : Room k X.A) (ha : EAo X Γ (e :: es) PA)
    (hS : ∀ A, PA A → ∀ P R, P (.val i x) → S A P R) (hg : Gl X n := by rfl) (hd : (n == ("__debug__" : Str)) = false := by decide)
    (he : starEach (e :: es) X.env = (false, eval e X.env) :: starEach es X.env := by exact star_of rfl) (hpl : (backTo pos (starEach es X.env)).any (·.1) = false := by exact pl_of rfl) : EV X Γ (.Call (.Name n p) (e :: es) [] pos) x :=
  ev_of_ex (ex_callO G hr ha (fun A hA P' R' h => hS A hA P' R' (h _ rfl)) hg hd he hpl)
theorem st_setO (k : Nat) {n : Str} {P0 : Own → Prop} (he : EX X Γ e (fun r => r = .own P0)) (hr : ∀ o, P0 o → ST X rest (Γ.set k (.own o)) E) (hN : X.N.Nodup) (hi : X.N[k]? = some n := by rfl) (hx : L2.Loc X.env.scope n := by first | exact Or.inl rfl | exact Or.inr rfl)
    (hs : swapsWith e (some (.Name n p)) pos.line X.env = pure false := by rfl) (hf : X.fn n = true ∨ X.env.scope.names.lookup n = some .local := by first | exact .inl rfl | exact .inr rfl) : ST X (.Assign [.Name n p] e pos :: rest) Γ E := fun B F H σ D L ed =>
  WP.cons (ps_set hN hi hx peW hs hf) (he B F H σ _ L fun r v F1 H1 er e1 r1 => by
    subst er
    obtain ⟨o, hP0, f, ok1⟩ := r1
    exact hr o hP0 B F1 H1 _ D (L.putO k e1 f ok1) (ed.weak e1.ff))
/-- an own thing frozen for good -/
theorem ev_ofO {P0 : Own → Prop} {x : α} (h : EX X Γ e (fun r => r = .own P0)) (hx : ∀ o, P0 o → Froz o x) : EV X Γ e x := fun B F H σ Q L q =>
  h B F H σ _ L fun r v F1 H1 er e1 r1 => by
    subst er
    obtain ⟨o, hP0, f, ok1⟩ := r1
    have s1 := (L.step e1).same
    have f0 : ∀ b ∈ o.fp, F1 b = none := fun b hb => (f b hb).2
    exact q v (frz F1 H1 o.fp) H1 ⟨e1.ff.trans (frz_le f0), frz_same s1, e1.hh, fun b _ h1 h2 => by
      rw [frz_out (fun hb => h2 (f b hb).1)]; exact e1.nw b h1 h2, fun _ z => z.elim⟩ (hx o hP0 s1 ok1 f0)
end
end Tw

namespace Tw
open PySem PySem.Spec PyProof.Rows L2 TL

/-- the body of a class's text, by number -/
def clsBody : Stmt → Nat → Stmt
  | .ClassDef _ _ _ body _ _ _ _ _ _ _, j => body.getD j (.Pass ⟨0, 0, 0, 0⟩)
  | st, _ => st
/-! ### exception classes with an __init__ -/
/-- a class over ValueError without __init__, whose __init__ others call -/
structure XBase (K : PySem.W.Frag) (mg : Str → Option Value) (n : Str) (D : Addr) : Prop where
  g : mg n = some (.ref D)
  sp : PySem.W.specialIn K (.ref D) "__getattribute__" = some (some (.builtin "type.__getattribute__"))
  rd : PySem.W.readsIn K D (.type "type") = true
  fc : PySem.W.findCls K (.ref D) (.type "type") "__init__" = some (.val (.builtin "ValueError.__init__"))
theorem pe_qinit {X : Cx} {n : Str} {D : Addr} {e : Expr} {es : List Expr} {ta : TA} {p1 p2 pos : Pos} {pl : Sem Bool} (T : XBase X.K X.mg n D) (ha : PA X (e :: es) ta) (hg : Gl X n := by rfl) (hd : (n == ("__debug__" : Str)) = false := by decide)
    (hc : eval (.Call (.Attribute (.Name n p1) "__init__" p2) (e :: es) [] pos) X.env = (do
      let ov ← eval (.Name n p1) X.env
      standAt p2.atName
      let (f, first) ← holding [ov] (getMethod ov "__init__" pl)
      callWith pos f first (backTo pos (starEach (e :: es) X.env)) (backToKw pos (keywordEach [] X.env))) := by rfl)
    (he : starEach (e :: es) X.env = (false, eval e X.env) :: starEach es X.env := by exact star_of rfl) (hpl : (backTo pos (starEach es X.env)).any (·.1) = false := by exact pl_of rfl) :
    PE X (.Call (.Attribute (.Name n p1) "__init__" p2) (e :: es) [] pos) (tVeI X.K ta) := by
  refine ⟨fun pins s σ H Q I h => ?_⟩
  refine PySem.W.methodCall_KW (ld_glob I hg T.g ?_ hd) hc
  refine PySem.W.method_cls I.kIn T.sp (PySem.W.cls_value I.kIn T.rd T.fc (by decide +kernel) ?_)
  show wpAny _ _ (callWith pos (Value.builtin "ValueError.__init__") [] (backTo pos (starEach (e :: es) X.env)) []) _ _ _
  refine PyProof.Rows.callWith_method1 (thn (ha.run pos pins _ σ H _ (I.tok _) h) fun us s1 ⟨vs, H1, I1, r1, a, C, ws, ev, hl, T, ea, q⟩ => ?_) he hpl
  subst ev
  cases r1 with
  | @cons _ u0 _ ur ra rw' =>
    obtain rfl : u0 = Value.ref a := ra
    have hlen : ur.length ≤ sizeLine := by
      rw [← Paired.length rw', sizeLine_eq]
      omega
    exact oinit_ok T I1 ea hlen fun s' J => ⟨.non, H1, J, rfl, q⟩
/-- the written part's word on such a class and its __init__ -/
structure Dx (K : PySem.W.Frag) (n fld qual : Str) (st : Stmt) (ps : List Str) : Prop where
  ex : ∃ C fI fd, PySem.W.nsIn K mainGlobals n = some (some (.ref C)) ∧ OexC K C ∧ PySem.W.findIn K (.ref C) fld = some none ∧ PySem.W.findIn K (.ref C) "__init__" = some (some (.ref fI)) ∧ PySem.W.typeIn K (.ref fI) = some (.type "function") ∧ Fun K "__init__" qual st fI fd ∧ Binds K fd ps []
theorem Dx.fld {K : PySem.W.Frag} {n fld qual : Str} {st : Stmt} {ps : List Str} (D : Dx K n fld qual st ps) : XFld K n fld := fun C h => by
  obtain ⟨C', fI, fd, hC, _, hno, _⟩ := D.ex
  obtain rfl := ns_one hC h
  exact hno
section
variable {P : Program} {w : World} {K : PySem.W.Frag} {mg : Str → Option Value} {base : Heap}
theorem XInit.of {n fld qual : Str} {st : Stmt} {N : List Str} {x y : Str} (D : Dx K n fld qual st [x, y]) (sc : FnScope N [x, y] (defScope st)) (hN : N.length = 2)
    (body : ∀ (C fI : Addr) (T : OexC K C) (hno : PySem.W.findIn K (.ref C) fld = some none) (cdv : Value) (A : Around) (outer : List Env) (s : Shared) (H : Hp) (E : XK) (a : Addr) (v : V) (Q : VK), H a = some (exo a C none) →
      (∀ dx, H dx = none → dx ≠ a → Q .non (upd (upd H dx (exd dx [(fld, v)])) a (exo a C (some dx)))) → WP (cxOf (L2.CX P w) P w K mg base N qual (defScope st) fI cdv A outer s H E) (defBody st) { nx := fun _ H' => Q .non H', rt := Q } [some (.ref a), some v] H) :
    XInit P w K mg base 1 n fld := by
  obtain ⟨C, fI, fd, hC, T, hno, iC, tI, F, hb⟩ := D.ex
  refine ⟨fun C' hC' => ?_⟩
  obtain rfl := ns_one hC hC'
  refine ⟨T, fI, fd, [x, y], iC, tI, hb, F.okX sc (fun vs H Q E ⟨a, v, e, _⟩ => by rw [e]; rfl) (fun cdv A outer s H vs Q E hr h => ?_)⟩
  obtain ⟨a, v, rfl, ha, hq⟩ := h
  refine ⟨_, psW, ?_⟩
  have e1 : L2.start N [V.ref a, v] = [some (.ref a), some v] := by
    unfold L2.start
    rw [hN]
    rfl
  rw [e1]
  exact body C' fI T hno cdv A outer s H E a v Q ha hq
end

section
variable {X : Cx} {Γ : List Slot} {α β γ : Type} {i : Rep α} {j : Rep β} {l : Rep γ} {pos p p2 : Pos} {e a b c elt tg it : Expr} {es : List Expr} {E : SE} {rest body : List Stmt}
/-- enumerate(text) -/
theorem src_enumS {x : Tx} {elts : List Expr} {kk : Nat} {tpos p2 : Pos} (hm : X.mg "enumerate" = none) (ha : EV X Γ a x) (hg : Gl X "enumerate" := by rfl) (hs : starEach [a] X.env = [(false, eval a X.env)] := by exact star_of rfl) : Src X Γ (.Tuple elts kk tpos) (.Call (.Name "enumerate" p) [a] [] p2) (enumL (x.map fun c => ([c] : Tx))) :=
  ⟨_, EnumS.pi_enumS hg hm (pa_cons peW pa_nil hs) hs, fun B F H σ R L q => ha B F H σ _ L fun v F1 H1 e1 r1 => by
    obtain rfl : v = .str (sx x) := r1
    refine ⟨sx x, rfl, q _ F1 H1 e1 fun F3 H3 s3 s4 => ⟨fun k y hy => ?_, ?_⟩⟩
    · obtain ⟨n, z⟩ := y
      obtain ⟨h1, h2⟩ := enumL_get hy
      rw [List.getElem?_map] at h2
      have hk : k < x.length := by
        cases q : x[k]? with
        | none => rw [q] at h2; cases h2
        | some c => exact (List.getElem?_eq_some_iff.mp q).1
      refine ⟨show k < (sx x).cps.size by show k < x.toArray.size; simpa using hk, fun v H4 hv => ?_⟩
      obtain ⟨T, c, rfl, hT, rfl, hc⟩ := hv
      have hc' : x[k]? = some c := by simpa [sx] using hc
      rw [hc'] at h2
      obtain rfl : ([c] : Tx) = z := Option.some.inj h2
      have ea := Ext.new (o := .tup [.int (k : Nat), .str ⟨#[c]⟩]) s4 hT
      exact ⟨_, ea, T, .int (k : Nat), .str ⟨#[c]⟩, rfl, upd_same, (show V.int (k : Nat) = V.int n by rw [show n = (k : Int) from h1]), rfl⟩
    · show (sx x).cps.size = _
      rw [enumL_len, List.length_map]
      show x.toArray.size = _
      simp⟩
/-- one sign in a text -/
theorem o_inS {c : Nat} {z : Tx} : OB X (compareOp .In) ([c] : Tx) z (decide (c ∈ z)) := ob_flat op_in_sign fun F H v u Q s r1 r2 q => ⟨c, sx z, r1, r2, q _ rfl⟩
theorem o_notInS {c : Nat} {z : Tx} : OB X (compareOp .NotIn) ([c] : Tx) z (!decide (c ∈ z)) := ob_flat op_notIn_sign fun F H v u Q s r1 r2 q => ⟨c, sx z, r1, r2, q _ rfl⟩
/-! ### more statements -/
theorem Lc.freeze {K : PySem.W.Frag} {B : Bs} {F H : Hp} {σ : L2.St} {k : Nat} {o : Own} {x : α} (L : Lc K B F H σ Γ) (hk : Γ[k]? = some (.own o)) (hx : Froz o x) : Lc K B (frz F H o.fp) H σ (Γ.set k (.val i x)) ∧ Same F (frz F H o.fp) := by
  obtain ⟨v, ev, ok, f⟩ := slot_own L hk
  have f0 : ∀ b ∈ o.fp, F b = none := fun b hb => (f b hb).1
  refine ⟨⟨⟨L.ext.ff.trans (frz_le f0), frz_same L.same, L.ext.hh, fun a hm h1 h2 => ?_, L.ext.th⟩, by simp [L.len], fun q t hq => ?_, L.ap.put k rfl⟩, frz_le f0⟩
  · have na : a ∉ o.fp := fun hb => (f a hb).2.elim (fun z => h2 z) hm
    rw [frz_out na]
    exact L.ext.nwM a hm h1 h2
  · rcases get_set_slot hq with ⟨e1, e2, rfl⟩ | ⟨e1, hq'⟩
    · subst e1
      rw [ev]
      exact ⟨v, rfl, hx L.same ok f0⟩
    · have old := L.ok q t hq'
      cases t with
      | no => trivial
      | val i x => obtain ⟨v, e2, r⟩ := old; exact ⟨v, e2, i.mono (frz_le f0) r⟩
      | own o2 =>
        obtain ⟨u, eu, ok2, f2⟩ := old
        exact ⟨u, eu, o2.stay (frz_le f0) (fun _ _ _ h => h) ok2, fun b hb => ⟨by rw [frz_out (fun hb2 => L.ap k q o o2 e1 hk hq' b hb2 hb)]; exact (f2 b hb).1, (f2 b hb).2⟩⟩
/-- an own thing is data from here on -/
theorem st_freeze (k : Nat) {o : Own} {x : α} {sts : List Stmt} (hx : Froz o x) (h : ST X sts (Γ.set k (.val i x)) E) (hk : Γ[k]? = some (.own o) := by rfl) : ST X sts Γ E := fun B F H σ D L ed => by
  obtain ⟨L', s⟩ := L.freeze hk hx
  exact h B _ H σ D L' (ed.weak s)
/-- an answer of which something is known -/
theorem st_setEx (k : Nat) {n : Str} {G : α → Prop} (he : EX X Γ e (fun r => ∃ x, G x ∧ r = .val i x)) (hr : ∀ x, G x → ST X rest (Γ.set k (.val i x)) E) (hN : X.N.Nodup) (hi : X.N[k]? = some n := by rfl) (hx : L2.Loc X.env.scope n := by first | exact Or.inl rfl | exact Or.inr rfl)
    (hs : swapsWith e (some (.Name n p)) pos.line X.env = pure false := by rfl) (hf : X.fn n = true ∨ X.env.scope.names.lookup n = some .local := by first | exact .inl rfl | exact .inr rfl) : ST X (.Assign [.Name n p] e pos :: rest) Γ E := fun B F H σ D L ed =>
  WP.cons (ps_set hN hi hx peW hs hf) (he B F H σ _ L fun r v F1 H1 er e1 r1 => by
    obtain ⟨x, hG, rfl⟩ := er
    exact hr x hG B F1 H1 _ D ((L.step e1).putV k r1) (ed.weak e1.ff))
end
/-! ### a word and numbers, as a tuple -/
structure Why where
  w : Tx
  ns : List Int
  deriving DecidableEq
instance repWhy : Rep Why := ⟨fun _ H v x => ∃ a, v = .ref a ∧ H a = some (.tup (.str (sx x.w) :: x.ns.map V.int)), fun s ⟨a, e, h⟩ => ⟨a, e, s _ _ h⟩⟩
theorem dpInts {K : PySem.W.Frag} {F : Hp} : ∀ ns : List Int, DpAll K F (ns.map V.int) (ns.map PyData.int)
  | [] => .nil
  | n :: ns => .cons (.int n) (dpInts ns)
theorem layInts : ∀ ns : List Int, PyData.canLayAll0 (ns.map PyData.int) = true
  | [] => by rw [List.map_nil, PyData.canLayAll0]
  | n :: ns => by rw [List.map_cons, PyData.canLayAll0, PyData.canLay0, layInts ns]; rfl
theorem depInts : ∀ ns : List Int, PyData.depthAll (ns.map PyData.int) = 0
  | [] => by rw [List.map_nil, PyData.depthAll]
  | n :: ns => by rw [List.map_cons, PyData.depthAll, depInts ns]; simp [PyData.depth]
abbrev instDatTx : Dat (List Nat) := inferInstance
instance : Dat Why := ⟨fun x => .tuple (.str (sx x.w) :: x.ns.map PyData.int), fun x => TxOk x.w, 1, fun {K F v x} ⟨a, e, h⟩ => by subst e; exact .tup (.inl (.inl h)) (.cons (.str _) (dpInts _)),
  fun {x} h => by
    rw [PyData.canLay0, PyData.canLayAll0, layInts]
    have := (instDatTx).lay (x := x.w) h
    show (PyData.canLay0 (.str (sx x.w)) && true) = true
    rw [show PyData.canLay0 (.str (sx x.w)) = true from this]; rfl,
  fun x => by rw [PyData.depth, PyData.depthAll, depInts]; simp [PyData.depth], fun x y => by
    rw [PyData.eqv, PyData.eqvAll]
    have h1 := (instDatTx).eqv x.w y.w
    have h2 := eqvAll (α := Int) x.ns y.ns
    rw [show PyData.eqv (.str (sx x.w)) (.str (sx y.w)) = decide (x.w = y.w) from h1, show PyData.eqvAll (x.ns.map PyData.int) (y.ns.map PyData.int) = decide (x.ns = y.ns) from h2, ← Bool.decide_and]
    exact decide_eq_decide.mpr (by cases x; cases y; simp)⟩
instance : Ty Why := ⟨"tuple", fun {_ _ _ v x} s h => by obtain ⟨a, rfl, h⟩ := h; exact .base (.tup (s _ _ h))⟩
instance : NonN Why := ⟨fun h z => by obtain ⟨a, rfl, _⟩ := h; cases z⟩
section
variable {X : Cx} {Γ : List Slot} {pos p p2 : Pos} {a : Expr} {es : List Expr}
theorem ev_why {x1} {w : Tx} {ns : List Int} (ha : EV X Γ a w) (hs : EAs X Γ es ns) (hz : ns.length ≤ 999 := by simp) (hst : starEach (a :: es) X.env = (false, eval a X.env) :: starEach es X.env := by exact star_of rfl) : EV X Γ (.Tuple (a :: es) x1 pos) (Why.mk w ns) := fun B F H σ Q L q =>
  WE.of (pe_tup (pa_cons peW paW hst)) (ha B F H σ _ L fun v F1 H1 e1 r1 => hs B F1 H1 σ _ (L.step e1) fun vs F2 H2 e2 r2 => ⟨by rw [List.length_cons, Paired.length r2]; exact sl_small (by omega), fun p hp => by
    have e12 := e1.trans e2
    have ea := Ext.new (o := .tup (v :: vs)) (L.step e12).same hp
    obtain rfl : v = .str (sx w) := r1
    have hv := Rps.ints r2
    subst hv
    exact q (.ref p) _ _ (e12.trans ea) ⟨p, rfl, upd_same⟩⟩)
/-- t[1:] of such a tuple -/
theorem ev_whyRest {x : Why} {k} (ha : EV X Γ a x) : EV X Γ (.Subscript a (.Slice (some (.Constant (.int 1) k p)) none none p2) pos) (Tup.mk x.ns) := fun B F H σ Q L q =>
  WE.of (pe_slice sl_tup peW (po_some pe_int) po_none) (ha B F H σ _ L fun v F1 H1 e1 r1 => by
    obtain ⟨ad, rfl, h⟩ := r1
    have s1 := (L.step e1).same
    refine ⟨1, rfl, ad, _, rfl, st_of s1 h, ?_, fun p hp => ?_⟩
    · rintro ⟨z, _⟩
      rw [show (1 : Int) = ((1 : Nat) : Int) from rfl, HT.sIx_nat] at z
      simp at z
    · have ea := Ext.new (o := .tup (x.ns.map V.int)) s1 hp
      have ec : cutV (.str (sx x.w) :: x.ns.map V.int) (some 1) none = x.ns.map V.int := by
        unfold cutV
        rw [show (1 : Int) = ((1 : Nat) : Int) from rfl, HT.sIx_nat]
        have h1 : min 1 (V.str (sx x.w) :: x.ns.map V.int).length = 1 := by simp
        rw [h1]
        show (x.ns.map V.int).take ((V.str (sx x.w) :: x.ns.map V.int).length - 1) = _
        rw [List.take_of_length_le (by simp)]
      rw [ec]
      exact q (.ref p) _ _ (e1.trans ea) ⟨p, _, rfl, upd_same, Rps.of_ints x.ns⟩)
/-- x + f(..), the answer some one-sign text -/
theorem ex_bin2 {b : Expr} {x : Tx} {P : Ret → Prop} (G : Nat → Prop) (ha : EV X Γ a x) (hb : EX X Γ b fun r => ∃ z, G z ∧ r = rv ([z] : Tx)) (hz : x.length + 1 ≤ sizeLine) (hP : ∀ z, G z → P (rv (x ++ [z]))) : EX X Γ (.BinOp a .Add b pos) P := fun B F H σ Q L q =>
  WE.of (pe_op op_add_str peW peW) (ha B F H σ _ L fun v F1 H1 e1 r1 => hb B F1 H1 σ _ (L.step e1) fun r u F2 H2 er e2 r2 => by
    obtain ⟨z, hG, rfl⟩ := er
    obtain rfl : v = .str (sx x) := r1
    obtain rfl : u = .str (sx [z]) := r2
    refine ⟨_, _, rfl, rfl, by rw [sx_len, sx_len]; exact hz, q (rv (x ++ [z])) _ F2 H2 (hP z hG) (e1.trans e2) ?_⟩
    show V.str _ = V.str _
    rw [sx_app])
/-- x + f(..) + y -/
theorem ex_bin3 {b c : Expr} {x y : Tx} {P : Ret → Prop} {p2 : Pos} (G : Nat → Prop) (ha : EV X Γ a x) (hb : EX X Γ b fun r => ∃ z, G z ∧ r = rv ([z] : Tx)) (hc : EV X Γ c y) (hz : x.length + 1 ≤ sizeLine) (hz2 : x.length + 1 + y.length ≤ sizeLine) (hP : ∀ z, G z → P (rv (x ++ [z] ++ y))) : EX X Γ (.BinOp (.BinOp a .Add b p2) .Add c pos) P := fun B F H σ Q L q =>
  WE.of (pe_op op_add_str peW peW) (ex_bin2 (P := fun r => ∃ z, G z ∧ r = rv (x ++ [z])) G ha hb hz (fun z hG => ⟨z, hG, rfl⟩) B F H σ _ L fun r v F1 H1 er e1 r1 => hc B F1 H1 σ _ (L.step e1) fun u F2 H2 e2 r2 => by
    obtain ⟨z, hG, rfl⟩ := er
    obtain rfl : v = .str (sx (x ++ [z])) := r1
    obtain rfl : u = .str (sx y) := r2
    refine ⟨_, _, rfl, rfl, by rw [sx_len, sx_len, List.length_append]; exact hz2, q (rv (x ++ [z] ++ y)) _ F2 H2 (hP z hG) (e1.trans e2) ?_⟩
    show V.str _ = V.str _
    rw [sx_app])
/-- an argument of which something is known -/
theorem eao_ex {α : Type} {i : Rep α} {G : α → Prop} {P : List Slot → Prop} {e : Expr} (h : EX X Γ e (fun r => ∃ x, G x ∧ r = .val i x)) (hr : EAo X Γ es P) (hs : starEach (e :: es) X.env = (false, eval e X.env) :: starEach es X.env := by exact star_of rfl) : EAo X Γ (e :: es) (fun A => ∃ x A', G x ∧ A = .val i x :: A' ∧ P A') := fun B F H σ Q L q =>
  WA.of (pa_cons peW paW hs) (h B F H σ _ L fun r v F1 H1 er e1 r1 => by
    obtain ⟨x, hG, rfl⟩ := er
    exact hr B F1 H1 σ _ (L.step e1) fun vs A F2 H2 hP e2 ok ap n => q (v :: vs) (.val i x :: A) F2 H2 ⟨x, A, hG, rfl, hP⟩ (e1.trans e2) ⟨i.mono e2.ff r1, ok⟩ (ap.tail fun o z => nomatch z) fun b m => by
      rcases MA_cons m with ⟨o, z, _⟩ | m
      · cases z
      · exact e1.hs.free (n b m))
/-- a text cut at each sign c -/
def splitC (c : Nat) : Tx → Tx → List Tx
  | acc, [] => [acc]
  | acc, d :: r => if d = c then acc :: splitC c [] r else splitC c (acc ++ [d]) r
theorem spl_one {c : Nat} : ∀ (l acc : Tx), TL.spl [c] 0 acc l = splitC c acc l
  | [], acc => rfl
  | d :: r, acc => by
    rw [TL.spl, splitC]
    have hp : TL.pre [c] (d :: r) = decide (d = c) := by
      unfold TL.pre
      by_cases h : d = c
      · subst h; simp
      · simp [h]
    rw [hp]
    by_cases h : d = c
    · rw [if_pos (decide_eq_true h), if_pos h]
      exact congrArg _ (spl_one r [])
    · rw [if_neg (by simpa using h), if_neg h]
      exact spl_one r (acc ++ [d])
theorem splitC_len {c : Nat} : ∀ (l acc : Tx), (splitC c acc l).length ≤ l.length + 1 ∧ ∀ x ∈ splitC c acc l, x.length ≤ acc.length + l.length
  | [], acc => ⟨by simp [splitC], fun x hx => by
    have : x = acc := by simpa [splitC] using hx
    rw [this]; simp⟩
  | d :: r, acc => by
    rw [splitC]
    split
    · obtain ⟨h1, h2⟩ := splitC_len (c := c) r []
      refine ⟨by simp only [List.length_cons]; omega, fun x hx => ?_⟩
      rcases List.mem_cons.mp hx with rfl | hx
      · omega
      · have := h2 x hx
        simp only [List.length_cons, List.length_nil] at this ⊢
        omega
    · obtain ⟨h1, h2⟩ := splitC_len (c := c) r (acc ++ [d])
      refine ⟨by simp only [List.length_cons]; omega, fun x hx => ?_⟩
      have := h2 x hx
      simp only [List.length_append, List.length_cons, List.length_nil] at this ⊢
      omega
theorem splitC_ok {c : Nat} : ∀ (l acc : Tx), TxOk acc → TxOk l → ∀ x ∈ splitC c acc l, TxOk x
  | [], acc, h1, _ => fun x hx => by
    have : x = acc := by simpa [splitC] using hx
    rw [this]; exact h1
  | d :: r, acc, h1, h2 => by
    have hr : TxOk r := fun z hz => h2 z (List.mem_cons_of_mem _ hz)
    rw [splitC]
    split
    · intro x hx
      rcases List.mem_cons.mp hx with rfl | hx
      · exact h1
      · exact splitC_ok r [] (fun _ h => nomatch h) hr x hx
    · refine splitC_ok r (acc ++ [d]) (fun z hz => ?_) hr
      rcases List.mem_append.mp hz with hz | hz
      · exact h1 z hz
      · rw [List.mem_singleton.mp hz]; exact h2 d (List.mem_cons_self ..)
/-- text.split(c), c one sign -/
theorem en_split {o e : Expr} {x : Tx} {c : Nat} {apos : Pos} (ho : EV X Γ o x) (he : EV X Γ e ([c] : Tx)) (hc : c < 256) (hz : x.length + 2 ≤ sizeLine) (hs : starEach [e] X.env = [(false, eval e X.env)] := by exact star_of rfl) (hbase : attributeBase o "split" X.env (eval o X.env) = eval o X.env := by rfl)
    (hline : (apos.endLine == pos.line) = true := by rfl) : EN X Γ (.Call (.Attribute o "split" apos) [e] [] pos) (splitC c [] x) := fun B F H σ Q L q =>
  WE.of (pe_split peW peW hs hbase hline) (ho B F H σ _ L fun v F1 H1 e1 r1 => ⟨⟨_, r1⟩, he B F1 H1 σ _ (L.step e1) fun u F2 H2 e2 r2 => by
    obtain rfl : v = .str (sx x) := r1
    obtain rfl : u = .str (sx [c]) := r2
    refine ⟨sx x, sx [c], rfl, rfl, by rw [sx_len]; rfl, by rw [sx_len]; exact hz, fun p hp => ?_⟩
    have e12 := e1.trans e2
    have s2 := (L.step e12).same
    have hk : (sx [c]).cps.all (· < 256) = true := by
      rw [← Array.all_toList]
      simpa [sx] using hc
    have es : Txt.split (sx x) (sx [c]) = (splitC c [] x).map sx := by
      refine TL.map_tl_inj ?_
      rw [TL.split_spl (sx x) (sx [c]) (by rw [tl_sx]; simp) (TL.kind_ok hk), tl_sx, tl_sx, spl_one, List.map_map]
      have : (tl ∘ sx) = (id : Tx → Tx) := funext fun x => tl_sx x
      rw [this, List.map_id]
    rw [es]
    exact q p _ F2 _ (e12.trans (Ext.apart s2 hp)) (e12.hs.free hp) (s2.free hp) upd_same (Rps.of_strs _)⟩)
theorem et_or4 {k m n o : Bool} {a b c d : Expr} (ha : ET X Γ a k) (hb : k = false → ET X Γ b m) (hc : k = false → m = false → ET X Γ c n) (hd : k = false → m = false → n = false → ET X Γ d o) : ET X Γ (.BoolOp .Or [a, b, c, d] pos) (k || (m || (n || o))) := et_w (ew_or ha fun h => ew_or (hb h) fun h2 => ew_or (hc h h2) fun h3 => ew_or1 (hd h h2 h3))
theorem et_and4 {k m n o : Bool} {a b c d : Expr} (ha : ET X Γ a k) (hb : k = true → ET X Γ b m) (hc : k = true → m = true → ET X Γ c n) (hd : k = true → m = true → n = true → ET X Γ d o) : ET X Γ (.BoolOp .And [a, b, c, d] pos) (k && (m && (n && o))) := et_w (ew_and ha fun h => ew_and (hb h) fun h2 => ew_and (hc h h2) fun h3 => ew_and1 (hd h h2 h3))
end
end Tw

namespace Tw
open PySem PySem.Spec PyProof.Rows L2 TL

/-! ### own things lent to a call, and changed by it -/
section
variable {K : PySem.W.Frag} {B : Bs} {F H F' H' : Hp} {σ : L2.St} {Γ : List Slot} {M : Addr → Prop}
theorem Lc.after (L : Lc K B F H σ Γ) (e : ExtM M F H F' H') {k : Nat} {o : Own} (hg : Γ[k]? = some (.own o)) (hM : ∀ b, M b → b ∈ o.fp) : Lc K B F' H' σ (Γ.set k .no) := by
  obtain ⟨v, ev, ok, f⟩ := slot_own L hg
  have here : ∀ b u, ¬ B.M b → B.H b = some u → ¬ M b := fun b u nb q m => (f b (hM b m)).2.elim (fun z => by rw [z] at q; cases q) nb
  refine ⟨⟨L.ext.ff.trans e.ff, e.fh, fun b u nb q => e.hh b u (here b u nb q) (L.ext.hh b u nb q), fun b nb h1 h2 => ?_, fun b hb h => ?_⟩, by simp [L.len], fun q t hq => ?_, L.ap.put k rfl⟩
  · cases q : B.H b with
    | none => exact absurd q h2
    | some u => exact e.nwM b (here b u nb q) (L.ext.nwM b nb h1 h2) (by rw [L.ext.hh b u nb q]; exact fun z => nomatch z)
  · have := L.ext.th b hb h
    by_cases m : M b
    · exact e.th b m this
    · cases q : H b with
      | none => exact absurd q this
      | some u => rw [e.hh b u m q]; exact fun z => nomatch z
  · rcases get_set_slot hq with ⟨_, _, rfl⟩ | ⟨e1, hq'⟩
    · trivial
    · have old := L.ok q t hq'
      cases t with
      | no => trivial
      | val i x => obtain ⟨v, e2, r⟩ := old; exact ⟨v, e2, i.mono e.ff r⟩
      | own o2 =>
        obtain ⟨u, eu, ok2, f2⟩ := old
        have nM : ∀ b ∈ o2.fp, ¬ M b := fun b hb m => L.ap k q o o2 e1 hg hq' b (hM b m) hb
        exact ⟨u, eu, o2.stay e.ff (fun b hb w z => e.hh b w (nM b hb) z) ok2, fun b hb => ⟨e.nwM b (nM b hb) (f2 b hb).1 (o2.there ok2 b hb), (f2 b hb).2⟩⟩
theorem Lc.back (L : Lc K B F H σ Γ) (e : ExtM M F H F' H') {k : Nat} {o o' : Own} (hg : Γ[k]? = some (.own o)) (hM : ∀ b, M b → b ∈ o.fp) (ok' : o'.ok K F' H' o'.root) (f' : ∀ b ∈ o'.fp, (H b = none ∨ M b) ∧ F' b = none) (hr : o'.root = o.root) : Lc K B F' H' σ (Γ.set k (.own o')) := by
  have L1 := L.after e hg hM
  obtain ⟨v, ev, ok, f⟩ := slot_own L hg
  have er : v = o.root := o.rt ok
  refine ⟨L1.ext, by simp [L.len], fun q t hq => ?_, L.ap.putO k fun j o2 hj h b hb => ?_⟩
  · rcases get_set_slot hq with ⟨e1, e2, rfl⟩ | ⟨e1, hq'⟩
    · subst e1
      rw [ev]
      refine ⟨v, rfl, by rw [er, ← hr]; exact ok', fun b hb => ⟨(f' b hb).2, ?_⟩⟩
      rcases (f' b hb).1 with z | m
      · exact L.nw z
      · exact (f b (hM b m)).2
    · exact L1.ok q t (by rw [List.getElem?_set_ne e1]; exact hq')
  · rcases (f' b hb).1 with z | m
    · exact L.ne_own z h
    · exact L.ap k j o o2 hj hg h b (hM b m)
end
/-- an expression that may change the own things of the places, and may raise -/
def EG (X : Cx) (Γ : List Slot) (e : Expr) (P : Ret → List Slot → Prop) (R : Exn → List Slot → Prop) : Prop :=
  ∀ B F H σ Q, Lc X.K B F H σ Γ → (∀ r v F' H' Γ', P r Γ' → Same F F' → Lc X.K B F' H' σ Γ' → ROk X.K (fun b => B.nw b ∧ Free Γ' b) F' H' v r → Q v H') →
    (∀ x u d F' H' Γ', R x Γ' → Same F F' → Lc X.K B F' H' σ Γ' → XOk X.K (fun b => B.nw b ∧ Free Γ' b) F' H' u d x → XW X u d σ H') → WE X e σ H Q
/-- arguments: data, and own things of places, lent -/
def EAb (X : Cx) (Γ : List Slot) (es : List Expr) (A : List Slot) : Prop :=
  ∀ B F H σ Q, Lc X.K B F H σ Γ → (∀ vs F' H', Ext F H F' H' → VsOkO X.K F' H' vs A → Q vs H') → WA X es σ H Q
def noOwn (A : List Slot) : Bool := A.all fun s => !s.isOwn
theorem noOwn_no {A : List Slot} (h : noOwn A = true) (o : Own) : Slot.own o ∉ A := fun m => by
  have := (List.all_eq_true.mp h) _ m
  cases this
theorem noOwn_ma {A : List Slot} (h : noOwn A = true) {b : Addr} (m : MA A b) : False := by
  obtain ⟨o, h1, _⟩ := m
  exact noOwn_no h o h1
theorem apart_one {o : Own} {A : List Slot} (h : noOwn A = true) : Apart (.own o :: A) := Apart.tail (fun i j o1 o2 _ h1 _ => absurd (List.mem_of_getElem? h1) (noOwn_no h o1)) fun _ _ _ _ m => noOwn_ma h m
theorem ma_one {o : Own} {A : List Slot} (h : noOwn A = true) {b : Addr} (m : MA (.own o :: A) b) : b ∈ o.fp := by
  rcases MA_cons m with ⟨o', z, hb⟩ | m
  · cases z; exact hb
  · exact (noOwn_ma h m).elim
section
variable {X : Cx} {Γ : List Slot} {α β γ : Type} {i : Rep α} {j : Rep β} {pos p p2 : Pos} {e a b c : Expr} {es : List Expr} {E : SE} {rest body : List Stmt}
theorem eab_nil : EAb X Γ [] [] := fun B F H σ Q L q => WA.of pa_nil (q [] F H (Ext.refl L.same) trivial)
theorem VsOkO.step {F H F' H' : Hp} (e : Ext F H F' H') : ∀ {vs : List V} {A : List Slot}, VsOkO X.K F H vs A → VsOkO X.K F' H' vs A
  | [], [], _ => trivial
  | v :: vs, .val i x :: A, h => ⟨i.mono e.ff h.1, VsOkO.step e h.2⟩
  | v :: vs, .own o :: A, h => ⟨o.stay e.ff (fun b _ u q => e.hs _ _ q) h.1, fun b hb => e.nw b (h.2.1 b hb) (o.there h.1 b hb), VsOkO.step e h.2.2⟩
  | [], _ :: _, h => h.elim
  | _ :: _, [], h => h.elim
  | _ :: _, .no :: _, h => h.elim
theorem eab_v {x : α} {A : List Slot} (h : EV X Γ e x) (hr : EAb X Γ es A) (hs : starEach (e :: es) X.env = (false, eval e X.env) :: starEach es X.env := by exact star_of rfl) : EAb X Γ (e :: es) (.val i x :: A) := fun B F H σ Q L q =>
  WA.of (pa_cons peW paW hs) (h B F H σ _ L fun v F1 H1 e1 r1 => hr B F1 H1 σ _ (L.step e1) fun vs F2 H2 e2 ok => q (v :: vs) F2 H2 (e1.trans e2) ⟨i.mono e2.ff r1, ok⟩)
/-- an own thing's place, as an argument -/
theorem eab_o (k : Nat) {n : Str} {o : Own} {A : List Slot} (hr : EAb X Γ es A) (hg : Γ[k]? = some (.own o) := by rfl) (hN : X.N[k]? = some n := by rfl) (hv : Vis X.env.scope n := by first | exact Or.inl rfl | exact Or.inr (Or.inl rfl) | exact Or.inr (Or.inr rfl)) (hd : (n == ("__debug__" : Str)) = false := by decide)
    (hcd : (n == ("__classdict__" : Str)) = false := by decide) (hs : starEach (.Name n p :: es) X.env = (false, eval (.Name n p) X.env) :: starEach es X.env := by exact star_of rfl) : EAb X Γ (.Name n p :: es) (.own o :: A) := fun B F H σ Q L q => by
  obtain ⟨v, ev, ok, f⟩ := slot_own L hg
  refine WA.of (pa_cons (pe_var hN hv hd hcd) paW hs) ⟨v, ev, hr B F H σ _ L fun vs F2 H2 e2 ok2 => q (v :: vs) F2 H2 e2 ⟨o.stay e2.ff (fun b _ u z => e2.hs _ _ z) ok, fun b hb => e2.nw b (f b hb).1 (o.there ok b hb), ok2⟩⟩
/-- what a call makes of the places when its first argument is an own thing that it changes -/
theorem borrow_rets {k : Nat} {o : Own} {A : List Slot} {B : Bs} {F H F1 H1 : Hp} {σ : L2.St} {Q : VK} {P : Ret → List Slot → Prop} {G : α → Own → Prop} (hg : Γ[k]? = some (.own o)) (L : Lc X.K B F H σ Γ) (e1 : Ext F H F1 H1) (hma : ∀ b, MA A b → b ∈ o.fp)
    (hG : ∀ x o', G x o' → o'.root = o.root) (hP : ∀ x o', G x o' → P (.val i x) (Γ.set k (.own o')))
    (q : ∀ r v F' H' Γ', P r Γ' → Same F F' → Lc X.K B F' H' σ Γ' → ROk X.K (fun b => B.nw b ∧ Free Γ' b) F' H' v r → Q v H') {x : α} {o' : Own} (hx : G x o') :
    ∀ v F' H', ExtM (MA A) F1 H1 F' H' → ROk X.K (Bs.nw ⟨F1, H1, MA A⟩) F' H' v (.chg i x [o']) → Q v H' := fun v F2 H2 e2 ok => by
  obtain ⟨r, f, _⟩ := ok
  obtain ⟨ok', f'⟩ := f o' (List.mem_singleton.mpr rfl)
  exact q (.val i x) v F2 H2 (Γ.set k (.own o')) (hP x o' hx) (e1.ff.trans e2.ff) ((L.step e1).back e2 hg hma ok' (fun b hb => f' b hb) (hG x o' hx)) r
theorem borrow_exns {k : Nat} {o : Own} {A : List Slot} {B : Bs} {F H F1 H1 : Hp} {σ : L2.St} {R : Exn → List Slot → Prop} (hg : Γ[k]? = some (.own o)) (L : Lc X.K B F H σ Γ) (e1 : Ext F H F1 H1) (hma : ∀ b, MA A b → b ∈ o.fp)
    (z : ∀ x u d F' H' Γ', R x Γ' → Same F F' → Lc X.K B F' H' σ Γ' → XOk X.K (fun b => B.nw b ∧ Free Γ' b) F' H' u d x → XW X u d σ H') {x : Exn} (hx : R x (Γ.set k .no)) :
    ∀ u d F' H', ExtM (MA A) F1 H1 F' H' → XOk X.K (Bs.nw ⟨F1, H1, MA A⟩) F' H' u d x → XW X u d σ H' := fun u d F2 H2 e2 ok => by
  have L1 := L.step e1
  have L2 := L1.after e2 hg hma
  obtain ⟨_, _, _, fo⟩ := slot_own L1 hg
  refine z x u d F2 H2 (Γ.set k .no) hx (e1.ff.trans e2.ff) L2 (ok.imp fun b h => ⟨?_, fun q o2 hq => ?_⟩)
  · exact h.elim (fun w => L1.nw w) fun m => (fo b (hma b m)).2
  · rcases get_set_slot hq with ⟨_, _, w⟩ | ⟨ne, hq'⟩
    · cases w
    · exact h.elim (fun w => L1.ne_own w hq') fun m => L1.ap k q o o2 ne hg hq' b (hma b m)
/-- f(self, ..), the first argument an own thing of place k, which f changes -/
theorem eg_call (k : Nat) {n : Str} {kk : Nat} {ps : List Str} {S : Spec} {o : Own} {A : List Slot} {P : Ret → List Slot → Prop} {R : Exn → List Slot → Prop} {G : α → Own → Prop} (GH : Has X.prog X.w X.K X.mg X.base kk n ps S) (hr : Room kk X.A) (ha : EAb X Γ (e :: es) (.own o :: A)) (hA : noOwn A = true) (hg : Γ[k]? = some (.own o))
    (hG : ∀ x o', G x o' → o'.root = o.root) (hP : ∀ x o', G x o' → P (.val i x) (Γ.set k (.own o'))) (hS : ∀ P' R', (∀ x o', G x o' → P' (.chg i x [o'])) → (∀ y, R y (Γ.set k .no) → R' y) → S (.own o :: A) P' R') (hgl : Gl X n := by rfl) (hd : (n == ("__debug__" : Str)) = false := by decide)
    (he : starEach (e :: es) X.env = (false, eval e X.env) :: starEach es X.env := by exact star_of rfl) (hpl : (backTo pos (starEach es X.env)).any (·.1) = false := by exact pl_of rfl) : EG X Γ (.Call (.Name n p) (e :: es) [] pos) P R := fun B F H σ Q L q z => by
  obtain ⟨f, fd, hm, hk, hb, GF⟩ := GH.ex
  refine WE.of (pe_callS (E := fun σ cls d H => XW X cls d σ H) GF hr hgl hm hk hb (fun σ => passAt takesW σ) paW hd he hpl) (ha B F H σ _ L fun vs F1 H1 e1 r1 => ?_)
  exact ⟨F1, _, (L.step e1).same, r1, apart_one hA, hS _ _ (fun x o' hx => borrow_rets hg L e1 (fun b m => ma_one hA m) hG hP q hx) fun y hy => borrow_exns hg L e1 (fun b m => ma_one hA m) z hy⟩
/-- an expression statement -/
theorem st_dropG {P : Ret → List Slot → Prop} {R : Exn → List Slot → Prop} (he : EG X Γ e P R) (hr : ∀ r Γ', P r Γ' → ST X rest Γ' E) (hR : ∀ x Γ', R x Γ' → E.ex Γ' x) (hs : swapsWith e none pos.line X.env = pure false := by rfl) : ST X (.Expr e pos :: rest) Γ E := fun B F H σ D L ed =>
  WP.cons (ps_expr peW hs) (he B F H σ _ L (fun r v F1 H1 Γ1 hP s1 L1 _ => hr r Γ1 hP B F1 H1 σ D L1 (ed.weak s1)) fun x u d F1 H1 Γ1 hx s1 L1 ok => ed.ex F1 H1 σ Γ1 x u d s1 (hR x Γ1 hx) L1 ok)
end

/-! ### instances -/
/-- typed fields -/
def SlotV (K : PySem.W.Frag) (F : Hp) (v : V) : Slot → Prop
  | .val i x => i.rp K F v x
  | _ => False
theorem SlotV.mono {K : PySem.W.Frag} {F F' : Hp} (s : Same F F') {v : V} {t : Slot} (h : SlotV K F v t) : SlotV K F' v t := by
  cases t with
  | val i x => exact i.mono s h
  | no => exact h.elim
  | own o => exact h.elim
def FOk (K : PySem.W.Frag) (F : Hp) : List (Str × V) → List (Str × Slot) → Prop
  | [], [] => True
  | p :: fv, q :: fs => p.1 = q.1 ∧ SlotV K F p.2 q.2 ∧ FOk K F fv fs
  | _, _ => False
theorem FOk.mono {K : PySem.W.Frag} {F F' : Hp} (s : Same F F') : ∀ {fv : List (Str × V)} {fs : List (Str × Slot)}, FOk K F fv fs → FOk K F' fv fs
  | [], [], _ => trivial
  | p :: fv, q :: fs, h => ⟨h.1, h.2.1.mono s, FOk.mono s h.2.2⟩
  | [], _ :: _, h => h.elim
  | _ :: _, [], h => h.elim
theorem lookup_ne {A : Type u} {f g : Str} {x : A} {l : List (Str × A)} (h : ¬ f = g) : ((g, x) :: l).lookup f = l.lookup f := by
  have hne : (f == g) = false := by simpa using h
  simp [List.lookup, hne]
theorem lookup_eq {A : Type u} {f : Str} {x : A} {l : List (Str × A)} : ((f, x) :: l).lookup f = some x := by simp [List.lookup]
theorem FOk.get {K : PySem.W.Frag} {F : Hp} {f : Str} {s : Slot} : ∀ {fv : List (Str × V)} {fs : List (Str × Slot)}, FOk K F fv fs → fs.lookup f = some s → ∃ v, fv.lookup f = some v ∧ SlotV K F v s
  | [], [], _, h => by cases h
  | [], _ :: _, h, _ => h.elim
  | _ :: _, [], h, _ => h.elim
  | (g, v) :: fv, (g', t) :: fs, ⟨e, r, tl⟩, h => by
    have e : g = g' := e
    subst e
    by_cases hf : f = g
    · subst hf
      rw [lookup_eq] at h ⊢
      cases h
      exact ⟨v, rfl, r⟩
    · rw [lookup_ne hf] at h ⊢
      exact FOk.get tl h
theorem FOk.no {K : PySem.W.Frag} {F : Hp} {f : Str} : ∀ {fv : List (Str × V)} {fs : List (Str × Slot)}, FOk K F fv fs → fs.lookup f = none → fv.lookup f = none
  | [], [], _, _ => rfl
  | [], _ :: _, h, _ => h.elim
  | _ :: _, [], h, _ => h.elim
  | (g, v) :: fv, (g', t) :: fs, ⟨e, r, tl⟩, h => by
    have e : g = g' := e
    subst e
    by_cases hf : f = g
    · subst hf
      rw [lookup_eq] at h
      cases h
    · rw [lookup_ne hf] at h ⊢
      exact FOk.no tl h
theorem FOk.len {K : PySem.W.Frag} {F : Hp} : ∀ {fv : List (Str × V)} {fs : List (Str × Slot)}, FOk K F fv fs → fv.length = fs.length
  | [], [], _ => rfl
  | _ :: _, _ :: _, h => by rw [List.length_cons, List.length_cons, FOk.len h.2.2]
  | [], _ :: _, h => h.elim
  | _ :: _, [], h => h.elim
theorem FOk.app {K : PySem.W.Frag} {F : Hp} {g : List (Str × V)} {g' : List (Str × Slot)} : ∀ {fv : List (Str × V)} {fs : List (Str × Slot)}, FOk K F fv fs → FOk K F g g' → FOk K F (fv ++ g) (fs ++ g')
  | [], [], _, h => h
  | _ :: _, _ :: _, h, h2 => ⟨h.1, h.2.1, FOk.app h.2.2 h2⟩
  | [], _ :: _, h, _ => h.elim
  | _ :: _, [], h, _ => h.elim
/-- putF of a new name -/
theorem putF_new {f : Str} {v : V} : ∀ {fv : List (Str × V)}, fv.lookup f = none → putF f v fv = fv ++ [(f, v)]
  | [], _ => rfl
  | (g, u) :: fv, h => by
    by_cases hf : f = g
    · subst hf; rw [lookup_eq] at h; cases h
    · rw [lookup_ne hf] at h
      show (if g = f then _ else _) = _
      rw [if_neg (Ne.symm hf), putF_new h]
      rfl
theorem FOk.put {K : PySem.W.Frag} {F : Hp} {f : Str} {v : V} {s : Slot} {fv : List (Str × V)} {fs : List (Str × Slot)} (h : FOk K F fv fs) (hn : fs.lookup f = none) (r : SlotV K F v s) : FOk K F (putF f v fv) (fs ++ [(f, s)]) := by
  rw [putF_new (h.no hn)]
  exact h.app ⟨rfl, r, trivial⟩
/-- an own instance of the class at C, its dict at dx -/
def ownI (C a dx : Addr) (fs : List (Str × Slot)) : Own where
  fp := [a, dx]
  root := .ref a
  ok := fun K F H v => v = .ref a ∧ a ≠ dx ∧ H dx = some (.own a) ∧ ∃ fv, H a = some (.ins C dx fv) ∧ FOk K F fv fs
  stay := fun s k ⟨e, n, h1, fv, h2, r⟩ => ⟨e, n, k dx (by simp) _ h1, fv, k a (by simp) _ h2, r.mono s⟩
  there := fun ⟨_, _, h1, fv, h2, _⟩ b hb z => by
    have hb' : b = a ∨ b = dx := by simpa using hb
    rcases hb' with rfl | rfl
    · rw [h2] at z; cases z
    · rw [h1] at z; cases z
  rt := fun h => h.1
/-- data that are instances -/
class Inst (α : Type) where
  cls : α → Str
  flds : α → List (Str × Slot)
instance (priority := low) repInst {α : Type} [t : Inst α] : Rep α := ⟨fun K F v x => ∃ a C dx fv, v = .ref a ∧ PySem.W.nsIn K mainGlobals (t.cls x) = some (some (.ref C)) ∧ F a = some (.ins C dx fv) ∧ F dx = some (.own a) ∧ FOk K F fv (t.flds x),
  fun s ⟨a, C, dx, fv, e, n, h1, h2, r⟩ => ⟨a, C, dx, fv, e, n, s _ _ h1, s _ _ h2, r.mono s⟩⟩
theorem frozI {α : Type} [t : Inst α] {C a dx : Addr} {x : α} {K0 : PySem.W.Frag} (hC : ∀ K : PySem.W.Frag, K = K0 → PySem.W.nsIn K mainGlobals (t.cls x) = some (some (.ref C))) {F H : Hp} {v : V} (s : Same F H) (ok : (ownI C a dx (t.flds x)).ok K0 F H v) (f : ∀ b ∈ [a, dx], F b = none) : repInst.rp K0 (frz F H [a, dx]) v x := by
  obtain ⟨e, n, h1, fv, h2, r⟩ := ok
  exact ⟨a, C, dx, fv, e, hC K0 rfl, (frz_in (by simp)).trans h2, (frz_in (by simp)).trans h1, r.mono (frz_le f)⟩
end Tw

namespace Tw
open PySem PySem.Spec PyProof.Rows L2 TL

/-! ### own classes -/
structure KCls (K : PySem.W.Frag) (n : Str) (C : Addr) : Prop where
  ns : PySem.W.nsIn K mainGlobals n = some (some (.ref C))
  cl : Cls K C
  mks : PySem.W.makesIn K C = true
  kp : PySem.W.keepIn K (.ref C) = true
  ty : PySem.W.typeIn K (.ref C) = some (.type "type")
  ha : PySem.W.findIn K (.ref C) "__class__" = some (some (.builtin "object.__class__"))
  hn : PySem.W.specialIn K (.builtin "object.__class__") "__get__" = some (some (.builtin "getset_descriptor.__get__"))
  ht : PySem.W.takesIn K (.builtin "object.__class__") = some true
  hm : PySem.W.mroIn K C (.type "object") = some true
def OC (K : PySem.W.Frag) (mg : Str → Option Value) (n : Str) : Prop := ∃ C, KCls K n C ∧ mg n = some (.ref C)
def NoA (K : PySem.W.Frag) (n f : Str) : Prop := ∀ C, PySem.W.nsIn K mainGlobals n = some (some (.ref C)) → NoAttr K C f
def OSub (K : PySem.W.Frag) (n m : Str) (b : Bool) : Prop := ∀ C D, PySem.W.nsIn K mainGlobals n = some (some (.ref C)) → PySem.W.nsIn K mainGlobals m = some (some (.ref D)) → PySem.W.kitOne K (.ref C) (.ref D) = some b
theorem OSub.mk {K : PySem.W.Frag} {n m : Str} {b : Bool} {C D : Addr} (a1 : PySem.W.nsIn K mainGlobals n = some (some (.ref C))) (a2 : PySem.W.nsIn K mainGlobals m = some (some (.ref D))) (ht : PySem.W.typeIn K (.ref D) = some (.type "type")) (hd : PySem.W.hasDictIn K D = true)
    (h : PySem.W.subIn K (.ref C) (.ref D) = some b) (hb : C = D → b = true) : OSub K n m b := fun C' D' e1 e2 => by
  obtain rfl := ns_one a1 e1
  obtain rfl := ns_one a2 e2
  exact kitOf ht hd h fun e => hb (Value.ref.inj e)
/-- a method of the class n, found at m -/
structure Dm (K : PySem.W.Frag) (n m qual : Str) (st : Stmt) (ps : List Str) : Prop where
  ex : ∃ C f fd, PySem.W.nsIn K mainGlobals n = some (some (.ref C)) ∧ Meth K C m f ∧ Fun K m qual st f fd ∧ Binds K fd ps []
structure HasM (P : Program) (w : World) (K : PySem.W.Frag) (mg : Str → Option Value) (base : Heap) (k : Nat) (n m : Str) (ps : List Str) (S : Spec) : Prop where
  ex : ∀ C, PySem.W.nsIn K mainGlobals n = some (some (.ref C)) → ∃ f fd, Meth K C m f ∧ Binds K fd ps [] ∧ FnOk P w K mg base (L2.CX P w) k f fd ps (spOf K S)
/-- the ends of an __init__: the own thing o at place 0 stands changed -/
abbrev finI (o : Own) (Q : Ret → Prop) (R : Exn → Prop) : SE := ⟨fun Γ => ∃ o', Γ[0]? = some (.own o') ∧ o'.root = o.root ∧ Q (.chg repUnit () [o']), Q, fun _ => False, fun _ => False, fun _ => R⟩
section
variable {P : Program} {w : World} {K : PySem.W.Frag} {mg : Str → Option Value} {base : Heap}
theorem HasM.of {n m qual : Str} {st : Stmt} {N ps : List Str} {k : Nat} {S : Spec} (D : Dm K n m qual st ps) (sc : FnScope N ps (defScope st)) (len : ∀ A Q R, S A Q R → A.length = ps.length)
    (body : ∀ (f : Addr) (cdv : Value) (A : Around) (outer : List Env) (s : Shared) (H : Hp) (E : XK), Room k (A.deeper (envOfC qual (defScope st) s.heap.objs.size f cdv)) → ∀ Γ Q R, S Γ Q R →
      ST (cxOf (L2.CX P w) P w K mg base N qual (defScope st) f cdv A outer s H E) (defBody st) (Γ ++ List.replicate (N.length - ps.length) .no) (finX Q R)) :
    HasM P w K mg base (k + 1) n m ps S := by
  obtain ⟨C0, f, fd, hC0, hM, F, hb⟩ := D.ex
  refine ⟨fun C hC => ⟨f, fd, by obtain rfl := ns_one hC0 hC; exact hM, hb, F.okX sc (fun vs H Q E ⟨F0, A, s, r, ap, h⟩ => ?_) (fun cdv A outer s H vs Q E hr h => ?_)⟩⟩
  · rw [r.len]; exact len _ _ _ h
  · obtain ⟨F0, A0, sm, r, ap, h⟩ := h
    refine ⟨_, psW, ?_⟩
    have hl := len _ _ _ h
    have L0 := lc_start (K := K) sm r ap (N.length - ps.length)
    have L1 : Lc K ⟨F0, H, MA A0⟩ F0 H (L2.start N vs) (A0 ++ List.replicate (N.length - ps.length) .no) := by
      unfold L2.start
      rw [show vs.length = ps.length from r.len.trans hl]
      exact L0
    refine body f cdv A outer s H E hr A0 _ _ h ⟨F0, H, MA A0⟩ F0 H _ _ L1 ⟨fun F' H' σ' Γ' _ hq L => ?_, fun r v F' H' hq ex ok => hq v F' H' ex ok, fun _ _ _ _ _ z => z.elim, fun _ _ _ _ _ z => z.elim, fun F1 H1 σ' Γ' x u d _ hq L ok => ?_⟩
    · exact hq .non F' H' L.ext rfl
    · exact XW.of (L2.takes_of rfl rfl rfl rfl) (hq u d F1 H1 L.ext (ok.imp fun b h => h.1))
/-- a method that changes its first argument, an own thing, and answers None at its end -/
theorem HasM.ofI {n m qual : Str} {st : Stmt} {N ps : List Str} {k : Nat} {S : Spec} (D : Dm K n m qual st ps) (sc : FnScope N ps (defScope st)) (len : ∀ A Q R, S A Q R → A.length = ps.length)
    (body : ∀ (f : Addr) (cdv : Value) (A : Around) (outer : List Env) (s : Shared) (H : Hp) (E : XK), Room k (A.deeper (envOfC qual (defScope st) s.heap.objs.size f cdv)) → ∀ Γ Q R, S Γ Q R →
      ∃ o, ST (cxOf (L2.CX P w) P w K mg base N qual (defScope st) f cdv A outer s H E) (defBody st) (Γ ++ List.replicate (N.length - ps.length) .no) (finI o Q R)) :
    HasM P w K mg base (k + 1) n m ps S := by
  obtain ⟨C0, f, fd, hC0, hM, F, hb⟩ := D.ex
  refine ⟨fun C hC => ⟨f, fd, by obtain rfl := ns_one hC0 hC; exact hM, hb, F.okX sc (fun vs H Q E ⟨F0, A, s, r, ap, h⟩ => ?_) (fun cdv A outer s H vs Q E hr h => ?_)⟩⟩
  · rw [r.len]; exact len _ _ _ h
  · obtain ⟨F0, A0, sm, r, ap, h⟩ := h
    refine ⟨_, psW, ?_⟩
    have hl := len _ _ _ h
    have L0 := lc_start (K := K) sm r ap (N.length - ps.length)
    have L1 : Lc K ⟨F0, H, MA A0⟩ F0 H (L2.start N vs) (A0 ++ List.replicate (N.length - ps.length) .no) := by
      unfold L2.start
      rw [show vs.length = ps.length from r.len.trans hl]
      exact L0
    obtain ⟨o, hbody⟩ := body f cdv A outer s H E hr A0 _ _ h
    refine hbody ⟨F0, H, MA A0⟩ F0 H _ _ L1 ⟨fun F' H' σ' Γ' _ hq L => ?_, fun r v F' H' hq ex ok => hq v F' H' ex ok, fun _ _ _ _ _ z => z.elim, fun _ _ _ _ _ z => z.elim, fun F1 H1 σ' Γ' x u d _ hq L ok => ?_⟩
    · obtain ⟨o', hg, hr', hq⟩ := hq
      obtain ⟨v, ev, ok', f'⟩ := slot_own L hg
      refine hq .non F' H' L.ext ⟨rfl, fun o2 h2 => ?_, List.pairwise_singleton _ _⟩
      rw [List.mem_singleton.mp h2]
      exact ⟨by rw [← o'.rt ok']; exact ok', fun b hb => ⟨(f' b hb).2, (f' b hb).1⟩⟩
    · exact XW.of (L2.takes_of rfl rfl rfl rfl) (hq u d F1 H1 L.ext (ok.imp fun b h => h.1))
end

section
variable {X : Cx} {Γ : List Slot} {α β γ : Type} {i : Rep α} {j : Rep β} {pos p p2 : Pos} {e a b c : Expr} {es : List Expr} {E : SE} {rest body : List Stmt}
/-- self.f = e, self an own instance, f new -/
theorem st_setF (k : Nat) {n f : Str} {C ad dx : Addr} {fs : List (Str × Slot)} {x : α} {p' : Pos} (he : EV X Γ e x) (hr : ST X rest (Γ.set k (.own (ownI C ad dx (fs ++ [(f, .val i x)])))) E) (hc : Cls X.K C) (hn : NoAttr X.K C f) (hnew : fs.lookup f = none) (hz : fs.length < 1000 := by simp)
    (hg : Γ[k]? = some (.own (ownI C ad dx fs)) := by rfl) (hN : X.N[k]? = some n := by rfl) (hv : Vis X.env.scope n := by first | exact Or.inl rfl | exact Or.inr (Or.inl rfl) | exact Or.inr (Or.inr rfl)) (hd : (n == ("__debug__" : Str)) = false := by decide) (hcd : (n == ("__classdict__" : Str)) = false := by decide)
    (hs : swapsWith e (some (.Attribute (.Name n p) f p')) pos.line X.env = pure false := by rfl) : ST X (.Assign [.Attribute (.Name n p) f p'] e pos :: rest) Γ E := fun B F H σ D L ed => by
  obtain ⟨v, ev, ok, _⟩ := slot_own L hg
  obtain ⟨rfl, _⟩ := ok
  refine WP.cons (ps_fld (pe_var hN hv hd hcd) peW hs) (he B F H σ _ L fun u F1 H1 e1 r1 => ⟨_, ev, ?_⟩)
  have L1 := L.step e1
  obtain ⟨v', ev', ⟨_, nn, h1, fv, h2, r⟩, f1⟩ := slot_own L1 hg
  refine ⟨ad, C, dx, fv, rfl, h2, hc, hn, by rw [r.len]; exact hz, ?_⟩
  refine hr B F1 _ σ D (L1.updO hg ev (fun b u hb q => ?_) (fun b hb => ?_) (fun b hb => .inl hb) ⟨rfl, nn, ?_, putF f u fv, upd_same, r.put hnew r1⟩) (ed.weak e1.ff)
  · rw [upd_ne (fun z => hb (by rw [z]; show ad ∈ [ad, dx]; simp))]; exact q
  · by_cases hba : b = ad
    · rw [hba, upd_same]; exact fun z => nomatch z
    · rw [upd_ne hba]
      have hb' : b = ad ∨ b = dx := by
        have : b ∈ [ad, dx] := hb
        simpa using this
      rcases hb' with rfl | rfl
      · exact absurd rfl hba
      · rw [h1]; exact fun z => nomatch z
  · rw [upd_ne (Ne.symm nn)]; exact h1
/-- x.f, x an instance -/
theorem ev_fld {α : Type} [t : Inst α] {x : α} {y : β} {n f : Str} (hc : OC X.K X.mg n) (hn : NoA X.K n f) (hx : t.cls x = n) (hf : (t.flds x).lookup f = some (.val j y)) (h : EV X Γ e x) (hb : attributeBase e f X.env (eval e X.env) = eval e X.env := by rfl) : EV X Γ (.Attribute e f pos) y := fun B F H σ Q L q =>
  WE.of (pe_fld peW hb) (h B F H σ _ L fun v F1 H1 e1 r1 => by
    obtain ⟨C, kC, gC⟩ := hc
    obtain ⟨ad, C', dx, fv, rfl, hC, h1, h2, r⟩ := r1
    rw [hx] at hC
    obtain rfl := ns_one kC.ns hC
    obtain ⟨v, hv, rv⟩ := r.get hf
    exact ⟨ad, C', dx, fv, v, rfl, (L.step e1).same _ _ h1, kC.cl, hn C' kC.ns, hv, q v F1 H1 e1 rv⟩)
/-- self.f, self an own instance -/
theorem ev_fldO (k : Nat) {n f : Str} {C ad dx : Addr} {fs : List (Str × Slot)} {y : β} (hc : Cls X.K C) (hn : NoAttr X.K C f) (hf : fs.lookup f = some (.val j y)) (hg : Γ[k]? = some (.own (ownI C ad dx fs)) := by rfl) (hN : X.N[k]? = some n := by rfl)
    (hv : Vis X.env.scope n := by first | exact Or.inl rfl | exact Or.inr (Or.inl rfl) | exact Or.inr (Or.inr rfl)) (hd : (n == ("__debug__" : Str)) = false := by decide) (hcd : (n == ("__classdict__" : Str)) = false := by decide) (hb : attributeBase (.Name n p) f X.env (eval (.Name n p) X.env) = eval (.Name n p) X.env := by rfl) : EV X Γ (.Attribute (.Name n p) f pos) y := fun B F H σ Q L q => by
  obtain ⟨v, ev, ⟨rfl, _, h1, fv, h2, r⟩, _⟩ := slot_own L hg
  obtain ⟨u, hu, ru⟩ := r.get hf
  exact WE.of (pe_fld (pe_var hN hv hd hcd) hb) ⟨_, ev, ad, C, dx, fv, u, rfl, h2, hc, hn, hu, q u F H (Ext.refl L.same) ru⟩
/-- isinstance(x, c), x an instance -/
theorem ev_isiI {α : Type} [t : Inst α] {x : α} {n c : Str} {k : Bool} (hm : X.mg "isinstance" = none) (hx : OC X.K X.mg n) (hc : OC X.K X.mg c) (hk : OSub X.K n c k) (hn : t.cls x = n) (h : EV X Γ e x) (hg : Gl X "isinstance" := by rfl) (hgT : Gl X c := by rfl) (hdT : (c == ("__debug__" : Str)) = false := by decide)
    (hs : starEach [e, .Name c p2] X.env = (false, eval e X.env) :: starEach [.Name c p2] X.env := by exact star_of rfl) (hs2 : starEach [.Name c p2] X.env = (false, eval (.Name c p2) X.env) :: starEach [] X.env := by exact star_of rfl) (hpl : (backTo pos (starEach [.Name c p2] X.env)).any (·.1) = false := by exact pl_of rfl) :
    EV X Γ (.Call (.Name "isinstance" p) [e, .Name c p2] [] pos) k := fun B F H σ Q L q => by
  obtain ⟨D, xD, gD⟩ := hc
  obtain ⟨C, xC, gC⟩ := hx
  refine WE.of (pe_callB call_isi hg hm (by decide +kernel) (pa_cons peW (pa_cons (pe_glob (v := .ref D) hgT gD rfl hdT) pa_nil hs2) hs) (by decide) (by decide) hs hpl) (h B F H σ _ L fun v F1 H1 e1 r1 => ?_)
  obtain ⟨ad, C', dx, fv, rfl, hC, h1, h2, r⟩ := r1
  rw [hn] at hC
  obtain rfl := ns_one xC.ns hC
  exact ⟨.ref ad, .ref D, .ref C', .ref D, k, rfl, .own D, .base (.ins ((L.step e1).same _ _ h1) xC.cl xC.ha xC.hn xC.ht xC.hm), hk C' D xC.ns xD.ns, q _ F1 H1 e1 rfl⟩

/-! ### making instances -/
theorem run_makeS {CX : CXT} {f C : Addr} {fd : FuncData} {ps : List Str} {sp : Sp} {k : Nat} {EE : XK} {pins : List (Addr × Obj)} {σ : L2.St} {H : Hp} {s : Shared} {Q : VK} {us : List Value} {vs : List V} (M : Mk X.K C f) (F : FnOk X.prog X.w X.K X.mg X.base CX k f fd ps sp) (hr : Room (k + 1) X.A) (hb : Binds X.K fd ps [])
    (hx : PassesAt CX X σ EE) (I : Inv X pins σ H s) (r : Vals vs us)
    (h : ∀ x dx, H x = none → H dx = none → dx ≠ x → sp (.ref x :: vs) (upd (upd H dx (.own x)) x (.ins C dx [])) (fun v H2 => v = .non ∧ Q (.ref x) H2) EE) :
    wpAny (model X.prog X.w) X.A (call (.ref C) us) (EP X pins σ Q) X.xe s := by
  have hq := h (s.heap.objs.size + 1) s.heap.objs.size (I.hok.fresh (Nat.le_succ _)) (I.hok.fresh (Nat.le_refl _)) (Nat.ne_of_lt (Nat.lt_succ_self _))
  have I2 := Inv.made (C := C) I
  have r2 : Vals (V.ref (s.heap.objs.size + 1) :: vs) (Value.ref (s.heap.objs.size + 1) :: us) := .cons rfl r
  have hl : (Value.ref (s.heap.objs.size + 1) :: us).length = ps.length := by
    have e := r2.length
    rw [F.len _ _ _ _ hq] at e
    exact e.symm
  have b := hb _ (Value.ref (s.heap.objs.size + 1) :: us) I2.kIn (by rw [List.append_nil]; exact hl)
  rw [List.append_nil] at b
  refine wpAny_call (make_map (f := f) I.kIn M.makes M.init (beq_iff_eq.mp M.fn) (codeAny_mono (F.run _ X.stack _ _ ⟨Value.ref (s.heap.objs.size + 1) :: us, []⟩ (Value.ref (s.heap.objs.size + 1) :: us) _ _ EE (hr.make C us [])
    (I2.env0.make C us []) b r2 hq) fun r s' hq' => ?_))
  cases r with
  | error e => exact hx pins _ _ e s' I2 hq'
  | ok fl =>
    cases fl with
    | ret u =>
      obtain ⟨v, H', I3, rv, ev, q3⟩ := I2.after hq'
      subst ev
      exact ⟨rv, ⟨V.ref (s.heap.objs.size + 1), H', I3, rfl, q3⟩⟩
    | next => exact False.elim hq'
    | brk => exact False.elim hq'
    | cont => exact False.elim hq'
/-- C(..): a new instance -/
theorem exx_make {n : Str} {k : Nat} {ps : List Str} {S : Spec} {A : List Slot} {P : Ret → Prop} {R : Exn → Prop} {fs : List (Str × Slot)} (hc : OC X.K X.mg n) (G : HasM X.prog X.w X.K X.mg X.base k n "__init__" ps S) (hr : Room (k + 1) X.A) (ha : EA X Γ (e :: es) A)
    (hS : ∀ C, PySem.W.nsIn X.K mainGlobals n = some (some (.ref C)) → ∀ ad dx, ∀ P' R', (P (.own fun o => ∃ ad dx, o = ownI C ad dx fs) → P' (.chg repUnit () [ownI C ad dx fs])) → (∀ y, R y → R' y) → S (.own (ownI C ad dx []) :: A) P' R') (hg : Gl X n := by rfl) (hd : (n == ("__debug__" : Str)) = false := by decide)
    (he : starEach (e :: es) X.env = (false, eval e X.env) :: starEach es X.env := by exact star_of rfl) (hpl : (backTo pos (starEach es X.env)).any (·.1) = false := by exact pl_of rfl) : EXX X Γ (.Call (.Name n p) (e :: es) [] pos) P R := fun B F H σ Q L q z => by
  obtain ⟨C, kC, gC⟩ := hc
  obtain ⟨f, fd, hM, hb, GF⟩ := G.ex C kC.ns
  have M : Mk X.K C f := ⟨kC.mks, hM.at_, hM.fn, kC.kp⟩
  refine ⟨fun pins s I => ?_⟩
  refine wpAny_Call_Name_kw (ld_glob I hg gC ?_ hd)
  refine PySem.W.callWith_K (h₀ := X.base) I.ok.mod.kin kC.kp (thn ((ha B F H σ (fun vs H1 => ∃ F1, Ext F H F1 H1 ∧ VsOk X.K F1 vs A) L (fun vs F1 H1 e1 r1 => ⟨F1, e1, r1⟩)).go pos pins s I) fun us s1 ⟨vs, H1, I1, rvs, F1, e1, r1⟩ => ⟨I1.kIn, ?_⟩) he hpl
  refine run_makeS (EE := fun cls d H => XW X cls d σ H) M GF hr hb (passAt takesW σ) I1 rvs fun ad dx had hdx hne => ?_
  have s1' := (L.step e1).same
  have ea : Ext F1 H1 F1 (upd (upd H1 dx (.own ad)) ad (.ins C dx [])) := by
    have x1 := Ext.apart (o := .own ad) s1' hdx
    exact x1.trans (Ext.apart (o := .ins C dx []) x1.fh (by rw [upd_ne (Ne.symm hne)]; exact had))
  have e2 := e1.trans ea
  have nA : noOwn A = true := by
    refine List.all_eq_true.mpr fun t ht => ?_
    cases t with
    | own o => exact absurd ht (r1.no o)
    | no => rfl
    | val i x => rfl
  have maN : ∀ b, MA (.own (ownI C ad dx []) :: A) b → H1 b = none := fun b m => by
    have hb := ma_one nA m
    have hb' : b = ad ∨ b = dx := by
      have : b ∈ [ad, dx] := hb
      simpa using this
    rcases hb' with rfl | rfl
    · exact had
    · exact hdx
  have fN : ∀ b ∈ [ad, dx], F1 b = none := fun b hb => by
    have hb' : b = ad ∨ b = dx := by simpa using hb
    rcases hb' with rfl | rfl
    · exact s1'.free had
    · exact s1'.free hdx
  have toExt : ∀ {F2 H2}, ExtM (MA (.own (ownI C ad dx []) :: A)) F1 (upd (upd H1 dx (.own ad)) ad (.ins C dx [])) F2 H2 → Ext F H F2 H2 := fun {F2 H2} x => e1.trans (ea.thenM x maN)
  have toN : ∀ b, Bs.nw ⟨F1, upd (upd H1 dx (.own ad)) ad (.ins C dx []), MA (.own (ownI C ad dx []) :: A)⟩ b → H b = none := fun b h => h.elim (fun w => e1.hs.free (ea.hs.free w)) fun m => e1.hs.free (maN b m)
  refine ⟨F1, .own (ownI C ad dx []) :: A, ea.fh, ⟨⟨rfl, Ne.symm hne, ?_, [], upd_same, trivial⟩, fN, r1.toO⟩, apart_one nA, hS C kC.ns ad dx _ _ (fun hP v F2 H2 x2 ok => ?_) fun y hy u d F2 H2 x2 ok => ?_⟩
  · rw [upd_ne hne, upd_same]
  · obtain ⟨rv0, fo, _⟩ := ok
    obtain ⟨ok', f'⟩ := fo _ (List.mem_singleton.mpr rfl)
    exact ⟨rv0, q _ (.ref ad) F2 H2 hP (toExt x2) ⟨ownI C ad dx fs, ⟨ad, dx, rfl⟩, fun b hb => ⟨toN b (f' b hb).1, (f' b hb).2⟩, ok'⟩⟩
  · exact z y u d F2 H2 hy (toExt x2) (ok.imp toN)
/-! ### methods of instances -/
theorem exx_meth {α : Type} [t : Inst α] {x : α} {n m : Str} {k : Nat} {ps : List Str} {S : Spec} {A : List Slot} {P : Ret → Prop} {R : Exn → Prop} {o : Expr} {apos : Pos} {pl : Sem Bool} (hc : OC X.K X.mg n) (G : HasM X.prog X.w X.K X.mg X.base k n m ps S) (hr : Room k X.A) (hx : t.cls x = n) (hm : (t.flds x).lookup m = none) (ho : EV X Γ o x) (ha : EA X Γ (e :: es) A)
    (hS : ∀ P' R', (∀ r, P r → P' r) → (∀ y, R y → R' y) → S (.val repInst x :: A) P' R') (hst : starEach (e :: es) X.env = (false, eval e X.env) :: starEach es X.env := by exact star_of rfl) (hpl : (backTo pos (starEach es X.env)).any (·.1) = false := by exact pl_of rfl)
    (ht : eval (.Call (.Attribute o m apos) (e :: es) [] pos) X.env = (do
      let ov ← eval o X.env
      standAt apos.atName
      let (f, first) ← holding [ov] (getMethod ov m pl)
      callWith pos f first (backTo pos (starEach (e :: es) X.env)) (backToKw pos (keywordEach [] X.env))) := by rfl) : EXX X Γ (.Call (.Attribute o m apos) (e :: es) [] pos) P R := fun B F H σ Q L q z => by
  obtain ⟨C, kC, gC⟩ := hc
  obtain ⟨f, fd, hM, hb, GF⟩ := G.ex C kC.ns
  refine ⟨fun pins s I => ?_⟩
  refine PySem.W.methodCall_KW (pl := pl) (thn ((ho B F H σ (fun v H1 => ∃ F1, Ext F H F1 H1 ∧ repInst.rp X.K F1 v x) L (fun v F1 H1 e1 r1 => ⟨F1, e1, r1⟩)).go pins s I) fun u s1 ⟨v, H1, I1, rv1, F1, e1, r1⟩ => ?_) ht
  obtain ⟨ad, C', dx, fv, rfl, hC, h1, h2, r⟩ := id r1
  rw [hx] at hC
  obtain rfl := ns_one kC.ns hC
  obtain rfl : u = Value.ref ad := rv1
  refine getmeth_ok I1 ((L.step e1).same _ _ h1) kC.cl hM (r.no hm) ?_
  refine PySem.W.callWith_K (first := [.ref ad]) (h₀ := X.base) I.ok.mod.kin hM.kp (thn ((ha B F1 H1 σ (fun vs H2 => ∃ F2, Ext F1 H1 F2 H2 ∧ VsOk X.K F2 vs A) (L.step e1) (fun vs F2 H2 e2 r2 => ⟨F2, e2, r2⟩)).go pos pins s1 I1) fun us s2 ⟨vs, H2, I2, rvs, F2, e2, r2⟩ => ⟨I2.kIn, ?_⟩) hst hpl
  have e12 := e1.trans e2
  have rA : VsOk X.K F2 (.ref ad :: vs) (.val repInst x :: A) := ⟨repInst.mono e2.ff r1, r2⟩
  refine run_fnS (E := fun σ cls d H => XW X cls d σ H) (us := .ref ad :: us) (vs := .ref ad :: vs) GF hr hb (passAt takesW σ) I2 (.cons rfl rvs) ?_
  exact ⟨F2, _, (L.step e12).same, rA.toO, rA.apart, hS _ _ (fun r hr v F3 H3 e3 ok => q r v F3 H3 hr (e12.thenM e3 fun _ m => (rA.ma m).elim) (ok.imp fun b h => e12.hs.free (h.elim id fun m => (rA.ma m).elim))) fun y hy u d F3 H3 e3 ok => z y u d F3 H3 hy (e12.thenM e3 fun _ m => (rA.ma m).elim) (ok.imp fun b h => e12.hs.free (h.elim id fun m => (rA.ma m).elim))⟩
theorem exx_meth0 {α : Type} [t : Inst α] {x : α} {n m : Str} {k : Nat} {ps : List Str} {S : Spec} {P : Ret → Prop} {R : Exn → Prop} {o : Expr} {apos : Pos} {pl : Sem Bool} (hc : OC X.K X.mg n) (G : HasM X.prog X.w X.K X.mg X.base k n m ps S) (hr : Room k X.A) (hx : t.cls x = n) (hm : (t.flds x).lookup m = none) (ho : EV X Γ o x)
    (hS : ∀ P' R', (∀ r, P r → P' r) → (∀ y, R y → R' y) → S [.val repInst x] P' R')
    (ht : eval (.Call (.Attribute o m apos) [] [] pos) X.env = (do
      let ov ← eval o X.env
      standAt apos.atName
      let (f, first) ← holding [ov] (getMethod ov m pl)
      callWith pos f first (backTo pos (starEach [] X.env)) (backToKw pos (keywordEach [] X.env))) := by rfl) : EXX X Γ (.Call (.Attribute o m apos) [] [] pos) P R := fun B F H σ Q L q z => by
  obtain ⟨C, kC, gC⟩ := hc
  obtain ⟨f, fd, hM, hb, GF⟩ := G.ex C kC.ns
  refine ⟨fun pins s I => ?_⟩
  refine PySem.W.methodCall_KW (pl := pl) (thn ((ho B F H σ (fun v H1 => ∃ F1, Ext F H F1 H1 ∧ repInst.rp X.K F1 v x) L (fun v F1 H1 e1 r1 => ⟨F1, e1, r1⟩)).go pins s I) fun u s1 ⟨v, H1, I1, rv1, F1, e1, r1⟩ => ?_) ht
  obtain ⟨ad, C', dx, fv, rfl, hC, h1, h2, r⟩ := id r1
  rw [hx] at hC
  obtain rfl := ns_one kC.ns hC
  obtain rfl : u = Value.ref ad := rv1
  refine getmeth_ok I1 ((L.step e1).same _ _ h1) kC.cl hM (r.no hm) ?_
  have rA : VsOk X.K F1 [.ref ad] [.val repInst x] := ⟨r1, trivial⟩
  refine PySem.W.callWith_K0 (first := [.ref ad]) I1.kIn hM.kp (run_fnS (E := fun σ cls d H => XW X cls d σ H) (us := [.ref ad]) (vs := [.ref ad]) GF hr hb (passAt takesW σ) I1 (.cons rfl .nil) ?_)
  exact ⟨F1, _, (L.step e1).same, rA.toO, rA.apart, hS _ _ (fun r hr v F3 H3 e3 ok => q r v F3 H3 hr (e1.thenM e3 fun _ m => (rA.ma m).elim) (ok.imp fun b h => e1.hs.free (h.elim id fun m => (rA.ma m).elim))) fun y hy u d F3 H3 e3 ok => z y u d F3 H3 hy (e1.thenM e3 fun _ m => (rA.ma m).elim) (ok.imp fun b h => e1.hs.free (h.elim id fun m => (rA.ma m).elim))⟩
/-- what raises nothing -/
theorem ex_of_exx {P : Ret → Prop} (h : EXX X Γ e P fun _ => False) : EX X Γ e P := fun B F H σ Q L q => h B F H σ Q L q fun _ _ _ _ _ z => z.elim
/-! ### C.__init__(self, ..) -/
/-- what the written part says of C.__init__ read off the class -/
def CInit (K : PySem.W.Frag) (n : Str) : Prop := ∀ C f, PySem.W.nsIn K mainGlobals n = some (some (.ref C)) → PySem.W.findIn K (.ref C) "__init__" = some (some (.ref f)) →
  PySem.W.specialIn K (.ref C) "__getattribute__" = some (some (.builtin "type.__getattribute__")) ∧ PySem.W.readsIn K C (.type "type") = true ∧ PySem.W.findCls K (.ref C) (.type "type") "__init__" = some (.val (.ref f))
theorem CInit.mk {K : PySem.W.Frag} {n : Str} {C f : Addr} (a : PySem.W.nsIn K mainGlobals n = some (some (.ref C))) (b : PySem.W.findIn K (.ref C) "__init__" = some (some (.ref f))) (c1 : PySem.W.specialIn K (.ref C) "__getattribute__" = some (some (.builtin "type.__getattribute__"))) (c2 : PySem.W.readsIn K C (.type "type") = true)
    (c3 : PySem.W.findCls K (.ref C) (.type "type") "__init__" = some (.val (.ref f))) : CInit K n := fun C' f' e1 e2 => by
  obtain rfl := ns_one a e1
  rw [b] at e2
  cases e2
  exact ⟨c1, c2, c3⟩
/-- C.__init__(self, ..), self an own instance of place k -/
theorem eg_cinit (k : Nat) {n : Str} {kk : Nat} {ps : List Str} {S : Spec} {o : Own} {A : List Slot} {P : Ret → List Slot → Prop} {R : Exn → List Slot → Prop} {G : Unit → Own → Prop} {p1 p2 : Pos} {pl : Sem Bool} (hc : OC X.K X.mg n) (hi : CInit X.K n) (GH : HasM X.prog X.w X.K X.mg X.base kk n "__init__" ps S) (hr : Room kk X.A)
    (ha : EAb X Γ (e :: es) (.own o :: A)) (hA : noOwn A = true) (hg : Γ[k]? = some (.own o)) (hG : ∀ x o', G x o' → o'.root = o.root) (hP : ∀ x o', G x o' → P (.val repUnit x) (Γ.set k (.own o'))) (hS : ∀ P' R', (∀ x o', G x o' → P' (.chg repUnit x [o'])) → (∀ y, R y (Γ.set k .no) → R' y) → S (.own o :: A) P' R') (hgl : Gl X n := by rfl)
    (hd : (n == ("__debug__" : Str)) = false := by decide)
    (ht : eval (.Call (.Attribute (.Name n p1) "__init__" p2) (e :: es) [] pos) X.env = (do
      let ov ← eval (.Name n p1) X.env
      standAt p2.atName
      let (f, first) ← holding [ov] (getMethod ov "__init__" pl)
      callWith pos f first (backTo pos (starEach (e :: es) X.env)) (backToKw pos (keywordEach [] X.env))) := by rfl)
    (he : starEach (e :: es) X.env = (false, eval e X.env) :: starEach es X.env := by exact star_of rfl) (hpl : (backTo pos (starEach es X.env)).any (·.1) = false := by exact pl_of rfl) : EG X Γ (.Call (.Attribute (.Name n p1) "__init__" p2) (e :: es) [] pos) P R := fun B F H σ Q L q z => by
  obtain ⟨C, kC, gC⟩ := hc
  obtain ⟨f, fd, hM, hb, GF⟩ := GH.ex C kC.ns
  obtain ⟨i1, i2, i3⟩ := hi C f kC.ns hM.at_
  refine ⟨fun pins s I => ?_⟩
  refine PySem.W.methodCall_KW (ld_glob I hgl gC ?_ hd) ht
  refine PySem.W.method_cls I.kIn i1 (PySem.W.cls_value I.kIn i2 i3 (by rfl) ?_)
  refine PySem.W.callWith_K (first := []) (h₀ := X.base) I.ok.mod.kin hM.kp (thn ((ha B F H σ (fun vs H1 => ∃ F1, Ext F H F1 H1 ∧ VsOkO X.K F1 H1 vs (.own o :: A)) L (fun vs F1 H1 e1 r1 => ⟨F1, e1, r1⟩)).go pos pins _ (I.tok _)) fun us s1 ⟨vs, H1, I1, rvs, F1, e1, r1⟩ => ⟨I1.kIn, ?_⟩) he hpl
  refine run_fnS (E := fun σ cls d H => XW X cls d σ H) GF hr hb (passAt takesW σ) I1 rvs ?_
  exact ⟨F1, _, (L.step e1).same, r1, apart_one hA, hS _ _ (fun x o' hx => borrow_rets hg L e1 (fun b m => ma_one hA m) hG hP q hx) fun y hy => borrow_exns hg L e1 (fun b m => ma_one hA m) z hy⟩
end
end Tw

namespace Tw
open PySem PySem.Spec PyProof.Rows L2 TL

/-! ### lists of unlike things -/
def HetOk (K : PySem.W.Frag) (F : Hp) : List V → List Slot → Prop
  | [], [] => True
  | v :: vs, s :: A => SlotV K F v s ∧ HetOk K F vs A
  | _, _ => False
theorem HetOk.mono {K : PySem.W.Frag} {F F' : Hp} (s : Same F F') : ∀ {vs : List V} {A : List Slot}, HetOk K F vs A → HetOk K F' vs A
  | [], [], _ => trivial
  | v :: vs, t :: A, h => ⟨h.1.mono s, HetOk.mono s h.2⟩
  | [], _ :: _, h => h.elim
  | _ :: _, [], h => h.elim
theorem HetOk.len {K : PySem.W.Frag} {F : Hp} : ∀ {vs : List V} {A : List Slot}, HetOk K F vs A → vs.length = A.length
  | [], [], _ => rfl
  | v :: vs, t :: A, h => by rw [List.length_cons, List.length_cons, HetOk.len h.2]
  | [], _ :: _, h => h.elim
  | _ :: _, [], h => h.elim
theorem HetOk.get {K : PySem.W.Frag} {F : Hp} : ∀ {vs : List V} {A : List Slot} {k : Nat} {s : Slot}, HetOk K F vs A → A[k]? = some s → ∃ v, vs[k]? = some v ∧ SlotV K F v s
  | [], [], _, _, _, h => by cases h
  | v :: vs, t :: A, 0, s, h, e => by
    have : t = s := by simpa using e
    subst this
    exact ⟨v, rfl, h.1⟩
  | v :: vs, t :: A, k + 1, s, h, e => by
    obtain ⟨u, hu, r⟩ := HetOk.get (k := k) h.2 (by simpa using e)
    exact ⟨u, by simpa using hu, r⟩
  | [], _ :: _, _, _, h, _ => h.elim
  | _ :: _, [], _, _, h, _ => h.elim
theorem HetOk.set {K : PySem.W.Frag} {F : Hp} {v : V} {s : Slot} (r : SlotV K F v s) : ∀ {vs : List V} {A : List Slot} (k : Nat), HetOk K F vs A → HetOk K F (vs.set k v) (A.set k s)
  | [], [], _, _ => trivial
  | _ :: _, _ :: _, 0, h => ⟨r, h.2⟩
  | _ :: _, _ :: _, k + 1, h => ⟨h.1, HetOk.set r k h.2⟩
  | [], _ :: _, _, h => h.elim
  | _ :: _, [], _, h => h.elim
theorem VsOk.het {K : PySem.W.Frag} {F : Hp} : ∀ {vs : List V} {A : List Slot}, VsOk K F vs A → HetOk K F vs A
  | [], [], _ => trivial
  | v :: vs, .val i x :: A, h => ⟨h.1, VsOk.het h.2⟩
  | [], _ :: _, h => h.elim
  | _ :: _, [], h => h.elim
  | _ :: _, .no :: _, h => h.elim
  | _ :: _, .own _ :: _, h => h.elim
def ownH (a : Addr) (A : List Slot) : Own where
  fp := [a]
  root := .ref a
  ok := fun K F H v => v = .ref a ∧ ∃ vs, H a = some (.lst vs) ∧ HetOk K F vs A
  stay := fun s k ⟨e, vs, h, p⟩ => ⟨e, vs, k a (List.mem_singleton.mpr rfl) _ h, p.mono s⟩
  there := fun ⟨_, vs, h, _⟩ b hb z => by rw [List.mem_singleton.mp hb, h] at z; cases z
  rt := fun h => h.1
class Het (α : Type) where
  els : α → List Slot
instance (priority := low) repHet {α : Type} [t : Het α] : Rep α := ⟨fun K F v x => ∃ a vs, v = .ref a ∧ F a = some (.lst vs) ∧ HetOk K F vs (t.els x), fun s ⟨a, vs, e, h, r⟩ => ⟨a, vs, e, s _ _ h, r.mono s⟩⟩
theorem frozH {α : Type} [t : Het α] {a : Addr} {x : α} : Froz (i := repHet) (ownH a (t.els x)) x := fun {K F H v} s ⟨e, vs, h, p⟩ f => ⟨a, vs, e, (frz_in (ps := [a]) (List.mem_singleton.mpr rfl)).trans h, p.mono (frz_le f)⟩
section
variable {X : Cx} {Γ : List Slot} {α β γ : Type} {i : Rep α} {j : Rep β} {pos p p2 : Pos} {e a b c : Expr} {es : List Expr} {E : SE} {rest body : List Stmt}
/-- [e1, e2, ..] of unlike things -/
theorem exo_het {A : List Slot} (h : EA X Γ es A) (hz : A.length ≤ 1000 := by decide) : EX X Γ (.List es pos) (fun r => r = .own fun o => ∃ a, o = ownH a A) := fun B F H σ Q L q =>
  WE.of (pe_lst paW) (h B F H σ _ L fun vs F1 H1 e1 r1 => ⟨by rw [r1.len]; exact sl_small hz, fun p hp => by
    have s1 := (L.step e1).same
    have ea := Ext.apart (o := .lst vs) s1 hp
    exact q _ (.ref p) F1 _ rfl (e1.trans ea) ⟨ownH p A, ⟨p, rfl⟩, fun b hb => by rw [List.mem_singleton.mp hb]; exact ⟨e1.hs.free hp, s1.free hp⟩, rfl, vs, upd_same, r1.het⟩⟩)
/-- xs[n] of such data -/
theorem ev_ixHet {α : Type} [t : Het α] {x : α} {n : Int} {y : β} {k : Nat} (ha : EV X Γ a x) (hb : EV X Γ b n) (hk : ixN (t.els x).length n = some k) (hx : (t.els x)[k]? = some (.val j y)) (hp : PlainIx b := by intro _ _; rfl) : EV X Γ (.Subscript a b pos) y := fun B F H σ Q L q =>
  WE.of (pe_ix ix_list peW peW hp) (ha B F H σ _ L fun v F1 H1 e1 r1 => hb B F1 H1 σ _ (L.step e1) fun u F2 H2 e2 r2 => by
    obtain ⟨ad, vs, rfl, h1, r⟩ := r1
    obtain ⟨w, hw, rw'⟩ := r.get hx
    have s2 := (L.step (e1.trans e2)).same
    exact ⟨ad, vs, n, w, rfl, r2, sq_of s2 (e2.ff _ _ h1), by unfold atI; rw [r.len, hk]; exact hw, q w F2 H2 (e1.trans e2) (rw'.mono e2.ff)⟩)
/-- .. of an own one -/
theorem ev_ixHetO (k : Nat) {nm : Str} {ad : Addr} {A : List Slot} {n : Int} {y : β} {t : Nat} (hb : EV X Γ b n) (ht : ixN A.length n = some t) (hx : A[t]? = some (.val j y)) (hg : Γ[k]? = some (.own (ownH ad A)) := by rfl) (hN : X.N[k]? = some nm := by rfl)
    (hv : Vis X.env.scope nm := by first | exact Or.inl rfl | exact Or.inr (Or.inl rfl) | exact Or.inr (Or.inr rfl)) (hd : (nm == ("__debug__" : Str)) = false := by decide) (hcd : (nm == ("__classdict__" : Str)) = false := by decide) (hp : PlainIx b := by intro _ _; rfl) : EV X Γ (.Subscript (.Name nm p) b pos) y := fun B F H σ Q L q => by
  obtain ⟨v, ev, ⟨rfl, vs, h1, r⟩, _⟩ := slot_own L hg
  refine WE.of (pe_ix ix_list (pe_var hN hv hd hcd) peW hp) ⟨_, ev, hb B F H σ _ L fun u F2 H2 e2 r2 => ?_⟩
  obtain ⟨v', ev', ⟨_, vs', h1', r'⟩, _⟩ := slot_own (L.step e2) hg
  obtain ⟨w, hw, rw'⟩ := r'.get hx
  exact ⟨ad, vs', n, w, rfl, r2, .inl (.inl h1'), by unfold atI; rw [r'.len, ht]; exact hw, q w F2 H2 e2 rw'⟩
/-- xs[n] = e, xs an own list of unlike things; of e something is known -/
theorem st_setHEx (m : Nat) {n : Str} {ad : Addr} {A : List Slot} {G : α → Prop} {z : Int} {t : Nat} {sp : Pos} {sl : Expr} (he : EX X Γ e (fun r => ∃ x, G x ∧ r = .val i x)) (hi : EV X Γ sl z) (hz : ixN A.length z = some t) (hr : ∀ x, G x → ST X rest (Γ.set m (.own (ownH ad (A.set t (.val i x))))) E) (hgm : Γ[m]? = some (.own (ownH ad A)) := by rfl) (hN : X.N[m]? = some n := by rfl)
    (hv : Vis X.env.scope n := by first | exact Or.inl rfl | exact Or.inr (Or.inl rfl) | exact Or.inr (Or.inr rfl)) (hdd : (n == ("__debug__" : Str)) = false := by decide) (hcd : (n == ("__classdict__" : Str)) = false := by decide)
    (hpg : ∀ v, assign (.Subscript (.Name n p) sl sp) X.env v = (do
      let ov ← holding [v] (eval (.Name n p) X.env)
      let iv ← holding [v, ov] (eval sl X.env)
      standAt sp
      holding [v, ov, iv] (setItem ov iv v)
      release [v, ov, iv] []) := by intro _; rfl)
    (hs : swapsWithSole [.Subscript (.Name n p) sl sp] e pos.line X.env = pure false := by rfl) (hw : swappedStores [.Subscript (.Name n p) sl sp] e X.env = pure none := by rfl)
    (h1 : (assignEach [.Subscript (.Name n p) sl sp] X.env).map (·.2) = [assign (.Subscript (.Name n p) sl sp) X.env] := by rfl) :
    ST X (.Assign [.Subscript (.Name n p) sl sp] e pos :: rest) Γ E := fun B F H σ D L ed => by
  obtain ⟨v0, ea, ⟨rfl, _⟩, _⟩ := slot_own L hgm
  refine WP.cons (ps_asg peW (pg_sub (pe_var hN hv hdd hcd) peW set_list hpg) hs hw h1) (he B F H σ _ L fun r v F1 H1 er e1 r1 => ⟨_, ea, hi B F1 H1 σ _ (L.step e1) fun u F2 H2 e2 r2 => ?_⟩)
  obtain ⟨x, hG, rfl⟩ := er
  have L2 := L.step (e1.trans e2)
  obtain ⟨v2, ev2, ⟨_, vs, ha, pr⟩, _⟩ := slot_own L2 hgm
  refine ⟨ad, vs, z, t, rfl, r2, ha, by rw [pr.len]; exact hz, hr x hG B F2 _ σ D (L2.updO hgm ea (fun b u hb q => ?_) (fun b hb => ?_) (fun b hb => .inl hb) ⟨rfl, _, upd_same, pr.set (s := .val i x) (i.mono e2.ff r1) t⟩) (ed.weak (e1.trans e2).ff)⟩
  · rw [upd_ne (fun z => hb (List.mem_singleton.mpr z))]; exact q
  · rw [List.mem_singleton.mp hb, upd_same]; exact fun z => nomatch z
/-- an own thing is handed back -/
theorem st_retO (k : Nat) {n : Str} {o : Own} {P0 : Own → Prop} (hP : E.rt (.own P0)) (ho : P0 o) (hg : Γ[k]? = some (.own o) := by rfl) (hN : X.N[k]? = some n := by rfl) (hv : Vis X.env.scope n := by first | exact Or.inl rfl | exact Or.inr (Or.inl rfl) | exact Or.inr (Or.inr rfl)) (hd : (n == ("__debug__" : Str)) = false := by decide)
    (hcd : (n == ("__classdict__" : Str)) = false := by decide) : ST X (.Return (some (.Name n p)) pos :: rest) Γ E := fun B F H σ D L ed => by
  obtain ⟨v, ev, ok, f⟩ := slot_own L hg
  exact WP.cons (ps_ret (pe_var hN hv hd hcd)) ⟨v, ev, ed.rt (.own P0) v F H hP L.ext ⟨o, ho, fun b hb => ⟨(f b hb).2, (f b hb).1⟩, ok⟩⟩
/-- a new own thing is handed back -/
theorem st_retNew {P0 : Own → Prop} (he : EX X Γ e (fun r => r = .own P0)) (hP : E.rt (.own P0)) : ST X (.Return (some e) pos :: rest) Γ E := st_ret he fun r h => h ▸ hP
/-- an own thing that lies in no place becomes data -/
theorem Lc.freezeN {K : PySem.W.Frag} {B : Bs} {F H : Hp} {σ : L2.St} (L : Lc K B F H σ Γ) {ps : List Addr} (f : ∀ b ∈ ps, B.nw b ∧ Free Γ b ∧ F b = none) : Lc K B (frz F H ps) H σ Γ ∧ Same F (frz F H ps) := by
  have f0 : ∀ b ∈ ps, F b = none := fun b hb => (f b hb).2.2
  refine ⟨⟨⟨L.ext.ff.trans (frz_le f0), frz_same L.same, L.ext.hh, fun a hm h1 h2 => ?_, L.ext.th⟩, L.len, fun q t hq => ?_, L.ap⟩, frz_le f0⟩
  · have na : a ∉ ps := fun hb => (f a hb).1.elim (fun z => h2 z) hm
    rw [frz_out na]
    exact L.ext.nwM a hm h1 h2
  · have old := L.ok q t hq
    cases t with
    | no => trivial
    | val i x => obtain ⟨v, e2, r⟩ := old; exact ⟨v, e2, i.mono (frz_le f0) r⟩
    | own o2 =>
      obtain ⟨u, eu, ok2, f2⟩ := old
      exact ⟨u, eu, o2.stay (frz_le f0) (fun _ _ _ h => h) ok2, fun b hb => ⟨by rw [frz_out (fun hb2 => (f b hb2).2.1 q o2 hq hb)]; exact (f2 b hb).1, (f2 b hb).2⟩⟩
/-- f(.., xs, ..), the own thing of place k handed over for good; the answer an own thing that is data from here on -/
theorem eg_move (k : Nat) {n : Str} {kk : Nat} {ps : List Str} {S : Spec} {o : Own} {A : List Slot} {G : α → Prop} (GH : Has X.prog X.w X.K X.mg X.base kk n ps S) (hr : Room kk X.A) (ha : EAb X Γ (e :: es) (.own o :: A)) (hA : noOwn A = true) (hg : Γ[k]? = some (.own o))
    {P0 : Own → Prop} (hF : ∀ o', P0 o' → ∃ x, G x ∧ Froz o' x) (hS : ∀ P' R', P' (.own P0) → S (.own o :: A) P' R') (hgl : Gl X n := by rfl) (hd : (n == ("__debug__" : Str)) = false := by decide)
    (he : starEach (e :: es) X.env = (false, eval e X.env) :: starEach es X.env := by exact star_of rfl) (hpl : (backTo pos (starEach es X.env)).any (·.1) = false := by exact pl_of rfl) : EG X Γ (.Call (.Name n p) (e :: es) [] pos) (fun r Γ' => (∃ x, G x ∧ r = .val i x) ∧ Γ' = Γ.set k .no) (fun _ _ => False) := fun B F H σ Q L q z => by
  obtain ⟨f, fd, hm, hk, hb, GF⟩ := GH.ex
  refine WE.of (pe_call GF hr hgl hm hk hb .nil passL paW hd he hpl) (ha B F H σ _ L fun vs F1 H1 e1 r1 => ?_)
  rw [List.append_nil]
  have L1 := L.step e1
  refine ⟨F1, _, L1.same, r1, apart_one hA, hS _ _ fun v F2 H2 e2 ok => ?_⟩
  obtain ⟨o', hP0, f', ok'⟩ := ok
  have hma : ∀ b, MA (.own o :: A) b → b ∈ o.fp := fun b m => ma_one hA m
  have L2 := L1.after e2 hg hma
  obtain ⟨_, _, _, fo⟩ := slot_own L1 hg
  have ff : ∀ b ∈ o'.fp, B.nw b ∧ Free (Γ.set k .no) b ∧ F2 b = none := fun b hb => ⟨(f' b hb).1.elim (fun w => L1.nw w) fun m => (fo b (hma b m)).2, fun q o2 hq => by
    rcases get_set_slot hq with ⟨_, _, w⟩ | ⟨ne, hq'⟩
    · cases w
    · exact (f' b hb).1.elim (fun w => L1.ne_own w hq') fun m => L1.ap k q o o2 ne hg hq' b (hma b m), (f' b hb).2⟩
  obtain ⟨L3, s3⟩ := L2.freezeN ff
  obtain ⟨x, hG, hx⟩ := hF o' hP0
  exact q (.val i x) v _ H2 _ ⟨⟨x, hG, rfl⟩, rfl⟩ ((e1.ff.trans e2.ff).trans s3) L3 (hx L2.same ok' fun b hb => (ff b hb).2.2)
/-- arguments, data all of them, that may change the own things of places -/
def EAg (X : Cx) (Γ : List Slot) (es : List Expr) (P : List Slot → List Slot → Prop) : Prop :=
  ∀ B F H σ Q, Lc X.K B F H σ Γ → (∀ vs A F' H' Γ', P A Γ' → Same F F' → Lc X.K B F' H' σ Γ' → VsOk X.K F' vs A → Q vs H') → WA X es σ H Q
theorem eag_nil : EAg X Γ [] (fun A Γ' => A = [] ∧ Γ' = Γ) := fun B F H σ Q L q => WA.of pa_nil (q [] [] F H Γ ⟨rfl, rfl⟩ (Same.refl F) L trivial)
theorem eag_v {x : α} {P : List Slot → List Slot → Prop} (h : EV X Γ e x) (hr : EAg X Γ es P) (hs : starEach (e :: es) X.env = (false, eval e X.env) :: starEach es X.env := by exact star_of rfl) : EAg X Γ (e :: es) (fun A Γ' => ∃ A', A = .val i x :: A' ∧ P A' Γ') := fun B F H σ Q L q =>
  WA.of (pa_cons peW paW hs) (h B F H σ _ L fun v F1 H1 e1 r1 => hr B F1 H1 σ _ (L.step e1) fun vs A F2 H2 Γ2 hP s2 L2 ok => q (v :: vs) _ F2 H2 Γ2 ⟨A, rfl, hP⟩ (e1.ff.trans s2) L2 ⟨i.mono s2 r1, ok⟩)
theorem eag_g {G : α → Prop} {PΓ : List Slot → Prop} {P : List Slot → List Slot → Prop} (h : EG X Γ e (fun r Γ' => (∃ x, G x ∧ r = .val i x) ∧ PΓ Γ') (fun _ _ => False)) (hr : ∀ Γ1, PΓ Γ1 → EAg X Γ1 es P) (hs : starEach (e :: es) X.env = (false, eval e X.env) :: starEach es X.env := by exact star_of rfl) : EAg X Γ (e :: es) (fun A Γ' => ∃ x A', G x ∧ A = .val i x :: A' ∧ P A' Γ') := fun B F H σ Q L q =>
  WA.of (pa_cons peW paW hs) (h B F H σ _ L (fun r v F1 H1 Γ1 hP s1 L1 r1 => by
    obtain ⟨⟨x, hG, rfl⟩, hΓ⟩ := hP
    exact hr Γ1 hΓ B F1 H1 σ _ L1 fun vs A F2 H2 Γ2 hP s2 L2 ok => q (v :: vs) _ F2 H2 Γ2 ⟨x, A, hG, rfl, hP⟩ (s1.trans s2) L2 ⟨i.mono s2 r1, ok⟩) fun _ _ _ _ _ _ w => w.elim)
/-- a call of such arguments -/
theorem eg_callD {n : Str} {kk : Nat} {ps : List Str} {S : Spec} {PA : List Slot → List Slot → Prop} {P : Ret → List Slot → Prop} (GH : Has X.prog X.w X.K X.mg X.base kk n ps S) (hr : Room kk X.A) (ha : EAg X Γ (e :: es) PA) (hS : ∀ A Γ', PA A Γ' → ∀ P' R', (∀ r, P r Γ' → P' r) → S A P' R') (hgl : Gl X n := by rfl)
    (hd : (n == ("__debug__" : Str)) = false := by decide) (he : starEach (e :: es) X.env = (false, eval e X.env) :: starEach es X.env := by exact star_of rfl) (hpl : (backTo pos (starEach es X.env)).any (·.1) = false := by exact pl_of rfl) : EG X Γ (.Call (.Name n p) (e :: es) [] pos) P (fun _ _ => False) := fun B F H σ Q L q z => by
  obtain ⟨f, fd, hm, hk, hb, GF⟩ := GH.ex
  refine WE.of (pe_call GF hr hgl hm hk hb .nil passL paW hd he hpl) (ha B F H σ _ L fun vs A F1 H1 Γ1 hP s1 L1 r1 => ?_)
  rw [List.append_nil]
  refine ⟨F1, A, L1.same, r1.toO, r1.apart, hS A Γ1 hP _ _ fun r hr v F2 H2 e2 ok => ?_⟩
  have e2' : Ext F1 H1 F2 H2 := (Ext.refl L1.same).thenM e2 fun _ m => (r1.ma m).elim
  exact q r v F2 H2 Γ1 hr (s1.trans e2.ff) (L1.step e2') (ok.imp fun b h => h.elim (fun w => ⟨L1.nw w, fun k o hk => L1.ne_own w hk⟩) fun m => (r1.ma m).elim)
theorem st_retG {P : Ret → List Slot → Prop} {R : Exn → List Slot → Prop} (he : EG X Γ e P R) (hP : ∀ r Γ', P r Γ' → E.rt r) (hR : ∀ x Γ', R x Γ' → E.ex Γ' x) : ST X (.Return (some e) pos :: rest) Γ E := fun B F H σ D L ed =>
  WP.cons (ps_ret peW) (he B F H σ _ L (fun r v F1 H1 Γ1 hp s1 L1 ok => ed.rt r v F1 H1 (hP r Γ1 hp) L1.ext (ok.imp fun b h => h.1)) fun x u d F1 H1 Γ1 hx s1 L1 ok => ed.ex F1 H1 σ Γ1 x u d s1 (hR x Γ1 hx) L1 ok)
/-- self.f = e, where e raises -/
theorem st_setFR {n f : Str} {p' : Pos} {R : Exn → Prop} (he : EXX X Γ e (fun _ => False) R) (hR : ∀ x, R x → E.ex Γ x) (k : Nat) (hN : X.N[k]? = some n := by rfl) (hv : Vis X.env.scope n := by first | exact Or.inl rfl | exact Or.inr (Or.inl rfl) | exact Or.inr (Or.inr rfl)) (hd : (n == ("__debug__" : Str)) = false := by decide) (hcd : (n == ("__classdict__" : Str)) = false := by decide)
    (hs : swapsWith e (some (.Attribute (.Name n p) f p')) pos.line X.env = pure false := by rfl) : ST X (.Assign [.Attribute (.Name n p) f p'] e pos :: rest) Γ E := fun B F H σ D L ed =>
  WP.cons (ps_fld (pe_var hN hv hd hcd) peW hs) (he B F H σ _ L (fun r v F1 H1 er e1 r1 => er.elim) fun x u d F1 H1 hx e1 ok => ed.exS (Same.refl F) (hR x hx) L e1 ok)
/-- str(n) -/
def strI (n : Int) : Tx := tl (Str.ofString (toString n))
theorem ev_strI {n : Int} (hm : X.mg "str" = none) (h : EV X Γ e n) (hz : n.natAbs.log2 < 1920) (hg : Gl X "str" := by rfl) (hs : starEach [e] X.env = (false, eval e X.env) :: starEach [] X.env := by exact star_of rfl) (hpl : (backTo pos (starEach [] X.env)).any (·.1) = false := by exact pl_of rfl) :
    EV X Γ (.Call (.Name "str" p) [e] [] pos) (strI n) :=
  ev_callT1 call_str_int hm (by decide +kernel) h (fun F H v Q s r q => ⟨n, by rw [show v = V.int n from r], hz, q _ F H (Ext.refl s) (by show V.str _ = V.str _; unfold strI; rw [sx_tl])⟩) hg (by decide) (by decide) hs hpl
theorem ev_pow {x y : Int} (h : CPow x y) (ha : EV X Γ a x) (hb : EV X Γ b y) : EV X Γ (.BinOp a .Pow b pos) (x ^ y.toNat) := ev_bin (ob_I op_pow h) ha hb
theorem ev_meth0 {α : Type} [t : Inst α] {x : α} {y : β} {n m : Str} {k : Nat} {ps : List Str} {S : Spec} {o : Expr} {apos : Pos} {pl : Sem Bool} (hc : OC X.K X.mg n) (G : HasM X.prog X.w X.K X.mg X.base k n m ps S) (hr : Room k X.A) (hx : t.cls x = n) (hm : (t.flds x).lookup m = none) (ho : EV X Γ o x) (hS : ∀ P' R', P' (.val j y) → S [.val repInst x] P' R')
    (ht : eval (.Call (.Attribute o m apos) [] [] pos) X.env = (do
      let ov ← eval o X.env
      standAt apos.atName
      let (f, first) ← holding [ov] (getMethod ov m pl)
      callWith pos f first (backTo pos (starEach [] X.env)) (backToKw pos (keywordEach [] X.env))) := by rfl) : EV X Γ (.Call (.Attribute o m apos) [] [] pos) y :=
  ev_of_ex (ex_of_exx (exx_meth0 hc G hr hx hm ho (fun P' R' h _ => hS P' R' (h _ rfl)) ht))
theorem en_meth0 {α : Type} [t : Inst α] {x : α} {ys : List β} {n m : Str} {k : Nat} {ps : List Str} {S : Spec} {o : Expr} {apos : Pos} {pl : Sem Bool} (hc : OC X.K X.mg n) (G : HasM X.prog X.w X.K X.mg X.base k n m ps S) (hr : Room k X.A) (hx : t.cls x = n) (hm : (t.flds x).lookup m = none) (ho : EV X Γ o x) (hS : ∀ P' R', P' (.new j ys) → S [.val repInst x] P' R')
    (ht : eval (.Call (.Attribute o m apos) [] [] pos) X.env = (do
      let ov ← eval o X.env
      standAt apos.atName
      let (f, first) ← holding [ov] (getMethod ov m pl)
      callWith pos f first (backTo pos (starEach [] X.env)) (backToKw pos (keywordEach [] X.env))) := by rfl) : EN X Γ (.Call (.Attribute o m apos) [] [] pos) ys :=
  en_of_ex (ex_of_exx (exx_meth0 hc G hr hx hm ho (fun P' R' h _ => hS P' R' (h _ rfl)) ht))
end
end Tw

namespace Tw
open PySem PySem.Spec PyProof.Rows L2 TL
section
variable {X : Cx} {Γ : List Slot} {α β γ : Type} {i : Rep α} {j : Rep β} {pos p p2 : Pos} {e a b c : Expr} {es : List Expr} {E : SE} {rest body : List Stmt}
/-- an instance made, kept as data -/
theorem exx_makeV {α : Type} [t : Inst α] {x : α} {n : Str} {k : Nat} {ps : List Str} {S : Spec} {A : List Slot} {R : Exn → Prop} (hc : OC X.K X.mg n) (G : HasM X.prog X.w X.K X.mg X.base k n "__init__" ps S) (hr : Room (k + 1) X.A) (hx : t.cls x = n) (ha : EA X Γ (e :: es) A)
    (hS : ∀ C, PySem.W.nsIn X.K mainGlobals n = some (some (.ref C)) → ∀ ad dx, ∀ P' R', P' (.chg repUnit () [ownI C ad dx (t.flds x)]) → (∀ y, R y → R' y) → S (.own (ownI C ad dx []) :: A) P' R') (hg : Gl X n := by rfl) (hd : (n == ("__debug__" : Str)) = false := by decide)
    (he : starEach (e :: es) X.env = (false, eval e X.env) :: starEach es X.env := by exact star_of rfl) (hpl : (backTo pos (starEach es X.env)).any (·.1) = false := by exact pl_of rfl) : EXX X Γ (.Call (.Name n p) (e :: es) [] pos) (fun r => r = .val repInst x) R := fun B F H σ Q L q z => by
  obtain ⟨C, kC, gC⟩ := id hc
  refine exx_make (P := fun r => r = .own fun o => ∃ ad dx, o = ownI C ad dx (t.flds x)) (R := R) (fs := t.flds x) hc G hr ha (fun C' e' ad dx P' R' h1 h2 => by
    obtain rfl := ns_one kC.ns e'
    exact hS _ e' ad dx P' R' (h1 rfl) h2) hg hd he hpl B F H σ _ L (fun r v F1 H1 er e1 r1 => ?_) z
  subst er
  obtain ⟨o, ⟨ad, dx, rfl⟩, f, ok1⟩ := r1
  have s1 := (L.step e1).same
  have f0 : ∀ b ∈ [ad, dx], F1 b = none := fun b hb => (f b hb).2
  refine q _ v (frz F1 H1 [ad, dx]) H1 rfl ⟨e1.ff.trans (frz_le f0), frz_same s1, e1.hh, fun b _ h1 h2 => by
    rw [frz_out (ps := [ad, dx]) (fun hb => h2 (f b hb).1)]; exact e1.nw b h1 h2, fun _ z => z.elim⟩ ?_
  exact frozI (K0 := X.K) (fun K e => by rw [e, hx]; exact kC.ns) s1 ok1 f0
theorem ev_makeV {α : Type} [t : Inst α] {x : α} {n : Str} {k : Nat} {ps : List Str} {S : Spec} {A : List Slot} (hc : OC X.K X.mg n) (G : HasM X.prog X.w X.K X.mg X.base k n "__init__" ps S) (hr : Room (k + 1) X.A) (hx : t.cls x = n) (ha : EA X Γ (e :: es) A)
    (hS : ∀ C, PySem.W.nsIn X.K mainGlobals n = some (some (.ref C)) → ∀ ad dx, ∀ P' R', P' (.chg repUnit () [ownI C ad dx (t.flds x)]) → S (.own (ownI C ad dx []) :: A) P' R') (hg : Gl X n := by rfl) (hd : (n == ("__debug__" : Str)) = false := by decide)
    (he : starEach (e :: es) X.env = (false, eval e X.env) :: starEach es X.env := by exact star_of rfl) (hpl : (backTo pos (starEach es X.env)).any (·.1) = false := by exact pl_of rfl) : EV X Γ (.Call (.Name n p) (e :: es) [] pos) x :=
  ev_of_ex (ex_of_exx (exx_makeV (R := fun _ => False) hc G hr hx ha (fun C h ad dx P' R' h1 _ => hS C h ad dx P' R' h1) hg hd he hpl))
/-- e, where e raises -/
theorem st_dropR {R : Exn → Prop} (he : EXX X Γ e (fun _ => False) R) (hR : ∀ x, R x → E.ex Γ x) (hs : swapsWith e none pos.line X.env = pure false := by rfl) : ST X (.Expr e pos :: rest) Γ E := fun B F H σ D L ed =>
  WP.cons (ps_expr peW hs) (he B F H σ _ L (fun r v F1 H1 z _ _ => z.elim) fun x u d F1 H1 hx e1 ok => ed.exS (Same.refl F) (hR x hx) L e1 ok)
theorem ev_of_en_aux {B : Bs} {F H F' H' : Hp} {σ : L2.St} {Q : VK} {xs : List α} {v : V} {G : List α → Prop} (hG : G xs) (L : Lc X.K B F H σ Γ) (ex : Ext F H F' H') (r1 : ROk X.K (Nw H) F' H' v (.new i xs)) (q : ∀ (r : Ret) (v : V) (F' H' : Hp), (∃ xs, G xs ∧ r = .val repList xs) → Ext F H F' H' → ROk X.K (Nw H) F' H' v r → Q v H') : Q v H' := by
  obtain ⟨a, vs, rfl, ha, fa, h', p⟩ := r1
  have sm : Same F' (upd F' a (.lst vs)) := fun b u e => by rw [upd_ne (ne_of_none e fa)]; exact e
  refine q (.val repList xs) (.ref a) (upd F' a (.lst vs)) H' ⟨xs, hG, rfl⟩ ⟨ex.ff.trans sm, fun b u e => ?_, ex.hh, fun b _ h1 h2 => ?_, fun _ z => z.elim⟩ ⟨a, vs, rfl, upd_same, Paired.mapP p fun _ _ q => i.mono sm q⟩
  · by_cases hb : b = a
    · subst hb; rw [upd_same] at e; rw [← e]; exact h'
    · rw [upd_ne hb] at e; exact ex.fh _ _ e
  · rw [upd_ne (fun z => by subst z; exact h2 ha)]; exact ex.nw b h1 h2
/-- some new list, kept as data -/
theorem exv_of_exn {G : List α → Prop} (h : EX X Γ e (fun r => ∃ xs, G xs ∧ r = .new i xs)) : EX X Γ e (fun r => ∃ xs, G xs ∧ r = .val repList xs) := fun B F H σ Q L q =>
  h B F H σ _ L fun r v F1 H1 er e1 r1 => by
    obtain ⟨xs, hG, rfl⟩ := er
    refine ev_of_en_aux hG L e1 r1 q
/-- max of two -/
theorem ev_max {x y : Int} (hm : X.mg "max" = none) (ha : EV X Γ a x) (hb : EV X Γ b y) (hc : X.calm = true := by rfl) (hg : Gl X "max" := by rfl)
    (hs : starEach [a, b] X.env = (false, eval a X.env) :: starEach [b] X.env := by exact star_of rfl) (hs2 : starEach [b] X.env = (false, eval b X.env) :: starEach [] X.env := by exact star_of rfl) (hpl : (backTo pos (starEach [b] X.env)).any (·.1) = false := by exact pl_of rfl) :
    EV X Γ (.Call (.Name "max" p) [a, b] [] pos) (if y > x then y else x) := fun B F H σ Q L q =>
  WE.of (pe_callB (call_max2 hc) hg hm boot_max (pa_cons peW (pa_cons peW pa_nil hs2) hs) (by decide) (by decide) hs hpl) (ha B F H σ _ L fun v F1 H1 e1 r1 => hb B F1 H1 σ _ (L.step e1) fun u F2 H2 e2 r2 => by
    obtain rfl : v = .int x := r1
    obtain rfl : u = .int y := r2
    exact ⟨x, y, rfl, q _ F2 H2 (e1.trans e2) rfl⟩)
end
end Tw

namespace Tw
open PySem PySem.Spec PyProof.Rows L2 TL
/-- text.partition(sep): three texts -/
def partL (sep x : Tx) : List Tx := match TL.par sep [] x with
  | some (a, b) => [a, sep, b]
  | none => [x, [], []]
theorem partS (sep x : Tx) (h : sep ≠ []) : ([.str (Txt.partition (sx x) (sx sep)).1, .str (Txt.partition (sx x) (sx sep)).2.1, .str (Txt.partition (sx x) (sx sep)).2.2] : List V) = (partL sep x).map fun t => V.str (sx t) := by
  have e := TL.partition_par (sx x) (sx sep) (by rw [tl_sx]; exact h)
  rw [tl_sx, tl_sx] at e
  unfold partL
  cases hp : TL.par sep [] x with
  | none =>
    rw [hp] at e
    rw [e]
    rfl
  | some z =>
    obtain ⟨a, b⟩ := z
    rw [hp] at e
    rw [e]
    rfl
theorem call_list_text {X : Cx} (hcalm : X.calm = true) : CallR X (.type "list") (fun xs H Q => ∃ x : Tx, xs = [.str (sx x)] ∧ x.length ≤ sizeLine ∧ ∀ l, H l = none → Q (.ref l) (upd H l (.lst (x.map fun c => V.str (sx [c]))))) := by
  intro pins s σ H xs us Q I r h
  obtain ⟨x, rfl, hz, q⟩ := h
  obtain ⟨u, rfl, t, rfl⟩ := vals1 r
  have hsz : (sx x).cps.size = x.length := by simp [sx]
  refine PySem.call_list_str (I.ok.hd hcalm) (sx x) t (fun h' tk acc' c' hk e hi => ?_) (by rw [hsz]; exact hz)
  obtain ⟨hs, hi⟩ := hi
  have hv : Vals (x.map fun c => V.str (sx [c])) acc'.toList := by
    have key : ∀ (l : Tx) (vs : List Value), vs.length = l.length → (∀ (j : Nat) (v : Value), vs[j]? = some v → ∃ (c : Nat) (u : Tok), l[j]? = some c ∧ v = Value.str ⟨#[c]⟩ u) → Vals (l.map fun c => V.str (sx [c])) vs := by
      intro l
      induction l with
      | nil =>
        intro vs h1 _
        match vs, h1 with
        | [], _ => exact .nil
      | cons c l ih =>
        intro vs h1 h2
        match vs, h1 with
        | v :: vs, h1 =>
          obtain ⟨c', u, e1, e2⟩ := h2 0 v rfl
          have : c = c' := Option.some.inj e1
          subst this
          exact .cons ⟨u, e2⟩ (ih vs (by simpa using h1) fun j v' hj => h2 (j + 1) v' hj)
    refine key x acc'.toList (by rw [Array.length_toList, hs, hsz]) fun j v hj => ?_
    obtain ⟨c, u, e1, e2⟩ := hi j v (by rw [← Array.getElem?_toList]; exact hj)
    refine ⟨c, u, ?_, e2⟩
    rw [← Array.getElem?_toList] at e1
    exact e1
  refine ⟨.ref s.heap.objs.size, _, I.laid (t' := tk) hk (Nat.le_refl _) (show ObjOk X.prog X.w _ h' _ (.lst _) from ⟨by rw [List.length_map]; exact hz, acc'.toList, c', hv, by rw [Array.toArray_toList]; exact e⟩), rfl, q _ (I.hok.fresh (Nat.le_refl _))⟩
section
variable {X : Cx} {Γ : List Slot} {α β γ : Type} {i : Rep α} {j : Rep β} {pos p p2 : Pos} {e a b c : Expr} {es : List Expr} {E : SE} {rest body : List Stmt}
/-- text.partition(sep) -/
theorem ev_part {o e : Expr} {x sep : Tx} {apos : Pos} (ho : EV X Γ o x) (he : EV X Γ e sep) (hne : sep ≠ []) (hz : x.length ≤ sizeLine) (hs : starEach [e] X.env = [(false, eval e X.env)] := by exact star_of rfl) (hbase : attributeBase o "partition" X.env (eval o X.env) = eval o X.env := by rfl)
    (hline : (apos.endLine == pos.line) = true := by rfl) : EV X Γ (.Call (.Attribute o "partition" apos) [e] [] pos) (Tup.mk (partL sep x)) := fun B F H σ Q L q =>
  WE.of (pe_partition peW peW hs hbase hline) (ho B F H σ _ L fun v F1 H1 e1 r1 => ⟨⟨_, r1⟩, he B F1 H1 σ _ (L.step e1) fun u F2 H2 e2 r2 => by
    obtain rfl : v = .str (sx x) := r1
    obtain rfl : u = .str (sx sep) := r2
    have hl : (sx sep).length = sep.length := sx_len _
    refine ⟨sx x, sx sep, rfl, rfl, by rw [hl]; cases sep with | nil => exact absurd rfl hne | cons c r => rfl, by rw [sx_len]; exact hz, fun p hp => ?_⟩
    have e12 := e1.trans e2
    have s2 := (L.step e12).same
    rw [partS sep x hne]
    have ea := Ext.new (o := .tup ((partL sep x).map fun t => V.str (sx t))) s2 hp
    refine q (.ref p) _ _ (e12.trans ea) ⟨p, _, rfl, upd_same, ?_⟩
    generalize partL sep x = ys
    induction ys with
    | nil => exact .nil
    | cons y ys ih => exact .cons rfl ih⟩)
/-- int(text) -/
theorem ev_intS {x : Tx} {n : Int} (hm : X.mg "int" = none) (h : EV X Γ e x) (hn : PySem.intText? (sx x) = some n) (hz : x.length ≤ 640) (hg : Gl X "int" := by rfl) (hs : starEach [e] X.env = (false, eval e X.env) :: starEach [] X.env := by exact star_of rfl) (hpl : (backTo pos (starEach [] X.env)).any (·.1) = false := by exact pl_of rfl) :
    EV X Γ (.Call (.Name "int" p) [e] [] pos) n :=
  ev_callT1 call_int_str hm (by decide +kernel) h (fun F H v Q s r q => by
    obtain rfl : v = .str (sx x) := r
    exact ⟨sx x, n, rfl, hn, by rw [sx_len]; exact hz, q _ F H (Ext.refl s) rfl⟩) hg (by decide) (by decide) hs hpl
/-- list(text) -/
theorem en_listS {x : Tx} (hm : X.mg "list" = none) (h : EV X Γ e x) (hz : x.length ≤ sizeLine) (hg : Gl X "list" := by rfl) (hcalm : X.calm = true := by rfl) (hs : starEach [e] X.env = (false, eval e X.env) :: starEach [] X.env := by exact star_of rfl) (hpl : (backTo pos (starEach [] X.env)).any (·.1) = false := by exact pl_of rfl) :
    EN X Γ (.Call (.Name "list" p) [e] [] pos) (x.map fun c => ([c] : Tx)) := fun B F H σ Q L q =>
  WE.of (pe_callTy (call_list_text hcalm) hg hm (by decide +kernel) (pa_cons peW pa_nil hs) (by decide) (by decide) hs hpl) (h B F H σ _ L fun v F1 H1 e1 r1 => by
    obtain rfl : v = .str (sx x) := r1
    refine ⟨x, rfl, hz, fun p hp => ?_⟩
    have s1 := (L.step e1).same
    refine q p _ F1 _ (e1.trans (Ext.apart s1 hp)) (e1.hs.free hp) (s1.free hp) upd_same ?_
    have pr : ∀ y : Tx, Paired (fun u t => repTx.rp X.K F1 u t) (y.map fun c => V.str (sx [c])) (y.map fun c => ([c] : Tx)) := fun y => by
      induction y with
      | nil => exact .nil
      | cons c r ih => exact .cons rfl ih
    exact pr x)
theorem eqV_str {x y : Tx} : eqV (.str (sx x)) (.str (sx y)) = decide (x = y) := by
  show decide (sx x = sx y) = _
  exact decide_eq_decide.mpr ⟨fun h => by rw [← tl_sx x, h, tl_sx], fun h => by rw [h]⟩
theorem inV_strs {x : Tx} {ys : List Tx} : inV (.str (sx x)) (ys.map fun t => V.str (sx t)) = decide (x ∈ ys) := by
  induction ys with
  | nil => rfl
  | cons y ys ih =>
    show (eqV _ _ || inV _ _) = _
    rw [ih, eqV_str]
    by_cases h : y = x
    · subst h; simp
    · simp [h, Ne.symm h]
theorem pd_strs {K : PySem.W.Frag} {F : Hp} : ∀ {vs : List V} {ys : List Tx}, Paired (fun u x => repTx.rp K F u x) vs ys → vs = ys.map fun t => V.str (sx t)
  | _, _, .nil => rfl
  | _, _, .cons r p => by
    rw [pd_strs p, List.map_cons]
    congr 1
theorem o_inLS {x : Tx} {ys : List Tx} : OB X (compareOp .In) x ys (decide (x ∈ ys)) := fun F H v u Q s r1 r2 q pins s' σ va vb I rv1 rv2 => by
  obtain rfl : v = .str (sx x) := r1
  obtain ⟨ad, vs, rfl, h1, pr⟩ := r2
  obtain rfl := pd_strs pr
  refine op_in_seq pins s' σ H _ _ va vb Q I rv1 rv2 ⟨ad, _, rfl, .inl (sq_of s h1), rfl, ?_, ?_⟩
  · rw [List.all_map]; exact List.all_eq_true.mpr fun _ _ => rfl
  · rw [if_neg (by decide), inV_strs]
    exact q _ F H (Ext.refl s) rfl
theorem o_notInLS {x : Tx} {ys : List Tx} : OB X (compareOp .NotIn) x ys (!decide (x ∈ ys)) := fun F H v u Q s r1 r2 q pins s' σ va vb I rv1 rv2 => by
  obtain rfl : v = .str (sx x) := r1
  obtain ⟨ad, vs, rfl, h1, pr⟩ := r2
  obtain rfl := pd_strs pr
  refine op_notIn_seq pins s' σ H _ _ va vb Q I rv1 rv2 ⟨ad, _, rfl, .inl (sq_of s h1), rfl, ?_, ?_⟩
  · rw [List.all_map]; exact List.all_eq_true.mpr fun _ _ => rfl
  · rw [if_pos rfl, inV_strs]
    exact q _ F H (Ext.refl s) rfl
/-! ### arguments that raise -/
def EXA (X : Cx) (Γ : List Slot) (es : List Expr) (R : Exn → Prop) : Prop :=
  ∀ B F H σ, Lc X.K B F H σ Γ → (∀ x u d F' H', R x → Ext F H F' H' → XOk X.K (Nw H) F' H' u d x → XW X u d σ H') → WA X es σ H (fun _ _ => False)
theorem exa_v {x : α} {R : Exn → Prop} (h : EV X Γ e x) (hr : EXA X Γ es R) (hs : starEach (e :: es) X.env = (false, eval e X.env) :: starEach es X.env := by exact star_of rfl) : EXA X Γ (e :: es) R := fun B F H σ L z =>
  WA.of (pa_cons peW paW hs) (h B F H σ _ L fun v F1 H1 e1 r1 => hr B F1 H1 σ (L.step e1) fun y u d F2 H2 hy e2 ok => z y u d F2 H2 hy (e1.trans e2) (ok.imp fun b hb => e1.hs.free hb))
theorem exa_x {R : Exn → Prop} (h : EXX X Γ e (fun _ => False) R) (hs : starEach (e :: es) X.env = (false, eval e X.env) :: starEach es X.env := by exact star_of rfl) : EXA X Γ (e :: es) R := fun B F H σ L z =>
  WA.of (pa_cons peW (paW (es := es)) hs) (h B F H σ _ L (fun r v F1 H1 hr _ _ => hr.elim) z)
theorem exx_makeA {n : Str} {R : Exn → Prop} (hc : OC X.K X.mg n) (ha : EXA X Γ (e :: es) R) (hg : Gl X n := by rfl) (hd : (n == ("__debug__" : Str)) = false := by decide)
    (he : starEach (e :: es) X.env = (false, eval e X.env) :: starEach es X.env := by exact star_of rfl) (hpl : (backTo pos (starEach es X.env)).any (·.1) = false := by exact pl_of rfl) : EXX X Γ (.Call (.Name n p) (e :: es) [] pos) (fun _ => False) R := fun B F H σ Q L q z => by
  obtain ⟨C, kC, gC⟩ := hc
  refine ⟨fun pins s I => ?_⟩
  refine wpAny_Call_Name_kw (ld_glob I hg gC ?_ hd)
  exact PySem.W.callWith_K (h₀ := X.base) I.ok.mod.kin kC.kp (thn ((ha B F H σ L z).go pos pins s I) fun us s1 ⟨vs, H1, I1, rvs, hf⟩ => hf.elim) he hpl
end
end Tw

namespace Tw
open PySem PySem.Spec PyProof.Rows L2 TL
/-! ### dicts -/
structure Dic (κ α : Type) where
  l : List (κ × α)
section
variable {κ : Type} [DecidableEq κ] {α : Type}
def look (l : List (κ × α)) (k : κ) : Option α := (l.find? fun p => decide (p.1 = k)).map (·.2)
def put (l : List (κ × α)) (k : κ) (v : α) : List (κ × α) := if (l.any fun p => decide (p.1 = k)) = true then l.map (fun p => if p.1 = k then (p.1, v) else p) else l ++ [(k, v)]
theorem look_nil {k : κ} : look ([] : List (κ × α)) k = none := rfl
theorem look_pos {p : κ × α} {r : List (κ × α)} {k : κ} (e : p.1 = k) : look (p :: r) k = some p.2 := by simp [look, List.find?_cons, e]
theorem look_neg {p : κ × α} {r : List (κ × α)} {k : κ} (e : ¬ p.1 = k) : look (p :: r) k = look r k := by simp [look, List.find?_cons, e]
theorem look_any (k : κ) : ∀ l : List (κ × α), (l.any fun p => decide (p.1 = k)) = (look l k).isSome
  | [] => rfl
  | p :: r => by
    rw [List.any_cons]
    by_cases e : p.1 = k
    · simp only [look_pos e, decide_eq_true e, Bool.true_or, Option.isSome_some]
    · rw [look_neg e, decide_eq_false e, Bool.false_or]; exact look_any k r
theorem look_map (k j : κ) (y : α) : ∀ l : List (κ × α), look (l.map fun p => if p.1 = k then (p.1, y) else p) j = (look l j).map fun x => if j = k then y else x
  | [] => rfl
  | p :: r => by
    have ih := look_map k j y r
    rw [List.map_cons]
    by_cases h : p.1 = k
    · rw [if_pos h]
      by_cases e : p.1 = j
      · rw [look_pos (p := (p.1, y)) e, look_pos e, Option.map_some, if_pos (e.symm.trans h)]
      · rw [look_neg (p := (p.1, y)) e, look_neg e, ih]
    · rw [if_neg h]
      by_cases e : p.1 = j
      · rw [look_pos e, look_pos e, Option.map_some, if_neg fun z => h (e.trans z)]
      · rw [look_neg e, look_neg e, ih]
theorem look_snoc (k j : κ) (y : α) : ∀ l : List (κ × α), look l k = none → look (l ++ [(k, y)]) j = if j = k then some y else look l j
  | [], _ => by
    rw [List.nil_append]
    by_cases e : k = j
    · rw [if_pos e.symm]; exact look_pos (p := (k, y)) e
    · rw [if_neg fun z => e z.symm]; exact look_neg (p := (k, y)) e
  | p :: r, hn => by
    have hk : ¬ p.1 = k := fun z => by rw [look_pos z] at hn; cases hn
    rw [look_neg hk] at hn
    have ih := look_snoc k j y r hn
    rw [List.cons_append]
    by_cases e : p.1 = j
    · rw [look_pos e, look_pos e, if_neg fun z => hk (e.trans z)]
    · rw [look_neg e, look_neg e, ih]
theorem look_put (l : List (κ × α)) (k j : κ) (y : α) : look (put l k y) j = if j = k then some y else look l j := by
  unfold put
  by_cases a : (l.any fun p => decide (p.1 = k)) = true
  · rw [if_pos a, look_map]
    rw [look_any] at a
    by_cases e : j = k
    · subst e
      obtain ⟨x, hx⟩ := Option.isSome_iff_exists.mp a
      rw [hx, Option.map_some, if_pos rfl]; simp
    · rw [if_neg e]
      cases look l j with
      | none => rfl
      | some x => simp [e]
  · rw [if_neg a]
    refine look_snoc k j y l ?_
    rw [look_any] at a
    cases q : look l k with
    | none => rfl
    | some x => rw [q] at a; exact (a rfl).elim
theorem put_len (l : List (κ × α)) (k : κ) (v : α) : (put l k v).length ≤ l.length + 1 := by
  unfold put
  split
  · rw [List.length_map]; omega
  · rw [List.length_append, List.length_cons, List.length_nil]; omega
theorem put_new {l : List (κ × α)} {k : κ} (v : α) (h : look l k = none) : put l k v = l ++ [(k, v)] := by
  unfold put
  rw [look_any, h]
  exact if_neg Bool.false_ne_true
theorem put_keys {l : List (κ × α)} {k : κ} {v : α} : (put l k v).map (·.1) = if (look l k).isSome then l.map (·.1) else l.map (·.1) ++ [k] := by
  unfold put
  rw [look_any]
  cases (look l k).isSome with
  | true =>
    rw [if_pos rfl, if_pos rfl, List.map_map]
    refine List.map_congr_left fun p _ => ?_
    show (if p.1 = k then (p.1, v) else p).1 = p.1
    split <;> rfl
  | false => rw [if_neg (by decide), if_neg (by decide), List.map_append]; rfl
theorem look_mem {l : List (κ × α)} {k : κ} {v : α} (h : look l k = some v) : (k, v) ∈ l := by
  induction l with
  | nil => cases h
  | cons p r ih =>
    by_cases e : p.1 = k
    · rw [look_pos e] at h
      obtain ⟨a, b⟩ := p
      cases Option.some.inj h
      cases (show a = k from e)
      exact List.mem_cons_self ..
    · rw [look_neg e] at h
      exact List.mem_cons_of_mem _ (ih h)
theorem look_none {l : List (κ × α)} {k : κ} : look l k = none ↔ k ∉ l.map (·.1) := by
  induction l with
  | nil => simp [look_nil]
  | cons p r ih =>
    by_cases e : p.1 = k
    · rw [look_pos e]; simp [e]
    · rw [look_neg e, ih, List.map_cons, List.mem_cons]
      constructor
      · rintro h (z | z)
        · exact e z.symm
        · exact h z
      · exact fun h z => h (.inr z)
theorem look_of_mem {l : List (κ × α)} {k : κ} {v : α} (nd : (l.map (·.1)).Nodup) (h : (k, v) ∈ l) : look l k = some v := by
  induction l with
  | nil => cases h
  | cons p r ih =>
    rw [List.map_cons, List.nodup_cons] at nd
    rcases List.mem_cons.mp h with e | h
    · subst e; exact look_pos rfl
    · rw [look_neg fun z => nd.1 (z ▸ List.mem_map.mpr ⟨_, h, rfl⟩)]
      exact ih nd.2 h
theorem put_nodup {l : List (κ × α)} {k : κ} {v : α} (nd : (l.map (·.1)).Nodup) : ((put l k v).map (·.1)).Nodup := by
  rw [put_keys]
  cases h : look l k with
  | some x => exact nd
  | none =>
    show (l.map (·.1) ++ [k]).Nodup
    rw [List.nodup_append]
    refine ⟨nd, List.nodup_cons.mpr ⟨by simp, List.nodup_nil⟩, fun a ha b hb => ?_⟩
    rw [List.mem_singleton] at hb
    subst hb
    exact fun z => look_none.mp h (z ▸ ha)
theorem valV_inj {μ : Type} [DecidableEq μ] {e : κ → μ} (inj : ∀ x y, e x = e y → x = y) (k : κ) : ∀ kvs : List (κ × V), valV (kvs.map fun p => (e p.1, p.2)) (e k) = valV kvs k
  | [] => rfl
  | p :: r => by
    rw [List.map_cons]
    by_cases h : p.1 = k
    · rw [valV_pos (p := (e p.1, p.2)) (congrArg e h), valV_pos h]
    · rw [valV_neg (p := (e p.1, p.2)) fun z => h (inj _ _ z), valV_neg h, valV_inj inj k r]
theorem putK_inj {μ : Type} [DecidableEq μ] {e : κ → μ} (inj : ∀ x y, e x = e y → x = y) (k : κ) (v : V) (kvs : List (κ × V)) : putK (kvs.map fun p => (e p.1, p.2)) (e k) v = (putK kvs k v).map fun p => (e p.1, p.2) := by
  unfold putK
  rw [List.any_map]
  have : (fun p : κ × V => decide (p.1 = k)) = ((fun kv : μ × V => decide (kv.1 = e k)) ∘ fun p : κ × V => (e p.1, p.2)) := by
    funext p
    exact decide_eq_decide.mpr ⟨fun z => congrArg e z, fun z => inj _ _ z⟩
  rw [← this]
  split
  · rw [List.map_map, List.map_map]
    refine List.map_congr_left fun p _ => ?_
    show (if e p.1 = e k then (e p.1, v) else (e p.1, p.2)) = (fun p : κ × V => (e p.1, p.2)) (if p.1 = k then (p.1, v) else p)
    by_cases h : p.1 = k
    · rw [if_pos h, if_pos (congrArg e h)]
    · rw [if_neg h, if_neg fun z => h (inj _ _ z)]
  · rw [List.map_append]; rfl
end
/-- keys of dicts: plain ones, or tuples of such -/
class DKey (κ : Type) [i : Rep κ] [DecidableEq κ] where
  ho : List (κ × V) → HO
  empty : ∀ (X : Cx) (pos : Pos), PE X (.Dict [] [] pos) (fun _ H Q => ∀ p, H p = none → Q (.ref p) (upd H p (ho [])))
  get : ∀ {K : PySem.W.Frag} {F H : Hp} {a : Addr} {v : V} {x : κ} {kvs : List (κ × V)}, Same F H → H a = some (ho kvs) → i.rp K F v x → DGet H a v (valV kvs x)
  put : ∀ {K : PySem.W.Frag} {F H : Hp} {a : Addr} {y : V} {x : κ} {kvs : List (κ × V)} {v : V}, Same F H → H a = some (ho kvs) → i.rp K F y x → kvs.length < sizeLine → DPut H a y v (upd H a (ho (putK kvs x v)))
  isD : ∀ {H : Hp} {a : Addr} {kvs : List (κ × V)}, H a = some (ho kvs) → IsD H a
def hoK {κ : Type} (e : κ → Key) (kvs : List (κ × V)) : HO := .dK (kvs.map fun p => (e p.1, p.2))
def hoT {κ : Type} (e : κ → List Key) (kvs : List (κ × V)) : HO := .dT (kvs.map fun p => (e p.1, p.2))
def DKey.ofK {κ : Type} [i : Rep κ] [DecidableEq κ] (e : κ → Key) (inj : ∀ x y, e x = e y → x = y) (h : ∀ {K F v x}, i.rp K F v x → v = kV (e x)) : DKey κ :=
  ⟨hoK e, fun X pos => pe_dnewK, fun {K F H a v x kvs} s ha r => by
    rw [h r, ← valV_inj inj x kvs]; exact DGet.k ha, fun {K F H a y x kvs v} s ha r hz => by
    rw [h r]
    unfold hoK
    rw [← putK_inj inj]
    exact DPut.k ha (by rw [List.length_map]; exact hz), fun ha => .inl ⟨_, .inl ha⟩⟩
def DKey.ofT {κ : Type} [i : Rep κ] [DecidableEq κ] (e : κ → List Key) (inj : ∀ x y, e x = e y → x = y) (h : ∀ {K F v x}, i.rp K F v x → ∃ b, v = .ref b ∧ F b = some (.tup ((e x).map kV))) : DKey κ :=
  ⟨hoT e, fun X pos => pe_dnewT, fun {K F H a v x kvs} s ha r => by
    obtain ⟨b, rfl, hb⟩ := h r
    rw [← valV_inj inj x kvs]; exact DGet.t ha (s _ _ hb), fun {K F H a y x kvs v} s ha r hz => by
    obtain ⟨b, rfl, hb⟩ := h r
    unfold hoT
    rw [← putK_inj inj]
    exact DPut.t ha (s _ _ hb) (by rw [List.length_map]; exact hz), fun ha => .inr ⟨_, .inl ha⟩⟩
theorem inr_sx (x y : Tx) (h : (Sum.inr (sx x) : Key) = Sum.inr (sx y)) : x = y := sx_inj (Sum.inr.inj h)
instance dkTx : DKey Tx := .ofK (fun x => .inr (sx x)) inr_sx fun {_ _ v x} h => h
instance dkInt : DKey Int := .ofK (fun x => .inl x) (fun _ _ h => Sum.inl.inj h) fun {_ _ v x} h => h
/-- what may stand in a key that is a tuple -/
class KPart (α : Type) [i : Rep α] where
  en : α → Key
  inj : ∀ x y, en x = en y → x = y
  rp : ∀ {K F v x}, i.rp K F v x → v = kV (en x)
instance : KPart Tx := ⟨fun x => .inr (sx x), inr_sx, fun {_ _ v x} h => h⟩
instance : KPart Int := ⟨fun x => .inl x, fun _ _ h => Sum.inl.inj h, fun {_ _ v x} h => h⟩
instance dkPair {α β : Type} [i : Rep α] [j : Rep β] [DecidableEq α] [DecidableEq β] [p : KPart α] [q : KPart β] : DKey (α × β) :=
  .ofT (fun x => [p.en x.1, q.en x.2]) (fun x y h => by
    obtain ⟨h1, h2⟩ := List.cons.inj h
    obtain ⟨h2, _⟩ := List.cons.inj h2
    exact Prod.ext (p.inj _ _ h1) (q.inj _ _ h2)) fun {K F v x} ⟨a, u, w, e, h, r1, r2⟩ => ⟨a, e, by rw [h, p.rp r1, q.rp r2]; rfl⟩
instance dkTup {α : Type} [i : Rep α] [DecidableEq α] [p : KPart α] : DKey (Tup α) :=
  .ofT (fun x => x.l.map p.en) (fun x y h => by
    cases x; cases y
    have : ∀ l m : List α, l.map p.en = m.map p.en → l = m := by
      intro l
      induction l with
      | nil => intro m h; cases m with | nil => rfl | cons _ _ => cases h
      | cons a l ih =>
        intro m h
        cases m with
        | nil => cases h
        | cons b m =>
          obtain ⟨h1, h2⟩ := List.cons.inj h
          rw [p.inj _ _ h1, ih m h2]
    exact congrArg Tup.mk (this _ _ h)) fun {K F v x} ⟨a, vs, e, h, pr⟩ => ⟨a, e, by
      rw [h]
      have : ∀ {vs : List V} {l : List α}, Paired (fun u x => i.rp K F u x) vs l → vs = (l.map p.en).map kV := by
        intro vs l h
        induction h with
        | nil => rfl
        | cons r _ ih => rw [List.map_cons, List.map_cons, ← ih, p.rp r]
      rw [this pr]⟩
section
variable {κ α : Type} [ik : Rep κ] [DecidableEq κ] [dk : DKey κ] {i : Rep α}
abbrev DRel (i : Rep α) (K : PySem.W.Frag) (F : Hp) (kvs : List (κ × V)) (l : List (κ × α)) : Prop := Paired (fun (p : κ × V) (q : κ × α) => p.1 = q.1 ∧ i.rp K F p.2 q.2) kvs l
theorem DRel.val {K : PySem.W.Frag} {F : Hp} {k : κ} : ∀ {kvs : List (κ × V)} {l : List (κ × α)}, DRel i K F kvs l → (look l k = none → valV kvs k = none) ∧ ∀ y, look l k = some y → ∃ v, valV kvs k = some v ∧ i.rp K F v y
  | _, _, .nil => ⟨fun _ => rfl, fun y h => by cases h⟩
  | _, _, .cons (a := p) (b := q) r t => by
    have ih := DRel.val (k := k) t
    by_cases e : p.1 = k
    · rw [look_pos (r.1.symm.trans e), valV_pos e]
      exact ⟨fun z => (nomatch z), fun y h => ⟨_, rfl, by cases Option.some.inj h; exact r.2⟩⟩
    · rw [look_neg fun z => e (r.1.trans z), valV_neg e]
      exact ih
theorem DRel.put {K : PySem.W.Frag} {F : Hp} {k : κ} {v : V} {y : α} {kvs : List (κ × V)} {l : List (κ × α)} (h : DRel i K F kvs l) (r : i.rp K F v y) : DRel i K F (putK kvs k v) (put l k y) := by
  have e1 : (kvs.any fun kv => decide (kv.1 = k)) = l.any fun p => decide (p.1 = k) := by
    clear r
    induction h with
    | nil => rfl
    | cons r _ ih => rw [List.any_cons, List.any_cons, ih, r.1]
  unfold putK Tw.put
  rw [e1]
  split
  · clear e1
    have go : ∀ {ks : List (κ × V)} {ls : List (κ × α)}, DRel i K F ks ls → DRel i K F (ks.map fun kv => if kv.1 = k then (kv.1, v) else kv) (ls.map fun p => if p.1 = k then (p.1, y) else p) := by
      intro ks ls h
      induction h with
      | nil => exact .nil
      | @cons p q _ _ r' _ ih =>
        refine .cons ?_ ih
        show ((if p.1 = k then (p.1, v) else p).1 = (if q.1 = k then (q.1, y) else q).1 ∧ i.rp K F (if p.1 = k then (p.1, v) else p).2 (if q.1 = k then (q.1, y) else q).2)
        by_cases z : p.1 = k
        · rw [if_pos z, if_pos (r'.1.symm.trans z)]; exact ⟨r'.1, r⟩
        · rw [if_neg z, if_neg fun z2 => z (r'.1.trans z2)]; exact r'
    exact go h
  · exact papp h (.cons ⟨rfl, r⟩ .nil)
instance repDic {α : Type} [i : Rep α] : Rep (Dic κ α) := ⟨fun K F v x => ∃ a kvs, v = .ref a ∧ F a = some (dk.ho kvs) ∧ DRel i K F kvs x.l,
  fun s ⟨a, kvs, e, h, p⟩ => ⟨a, kvs, e, s _ _ h, Paired.mapP p fun _ _ q => ⟨q.1, i.mono s q.2⟩⟩⟩
def ownD (κ : Type) {α : Type} [ik : Rep κ] [DecidableEq κ] [dk : DKey κ] (i : Rep α) (a : Addr) (l : List (κ × α)) : Own where
  fp := [a]
  root := .ref a
  ok := fun K F H v => v = .ref a ∧ ∃ kvs, H a = some (dk.ho kvs) ∧ DRel i K F kvs l
  stay := fun s k ⟨e, vs, h, p⟩ => ⟨e, vs, k a (List.mem_singleton.mpr rfl) _ h, Paired.mapP p fun _ _ q => ⟨q.1, i.mono s q.2⟩⟩
  there := fun ⟨_, vs, h, _⟩ b hb z => by rw [List.mem_singleton.mp hb, h] at z; cases z
  rt := fun h => h.1
theorem frozD {a : Addr} {l : List (κ × α)} : Froz (ownD κ i a l) (Dic.mk l) := fun {K F H v} s ⟨e, vs, h, p⟩ f => ⟨a, vs, e, (frz_in (ps := [a]) (List.mem_singleton.mpr rfl)).trans h, Paired.mapP p fun _ _ q => ⟨q.1, i.mono (frz_le f) q.2⟩⟩
variable {X : Cx} {Γ : List Slot} {pos p p2 : Pos} {e a b c : Expr} {es : List Expr} {E : SE} {rest : List Stmt}
/-- {} -/
theorem exo_dict (κ : Type) {α : Type} [ik : Rep κ] [DecidableEq κ] [dk : DKey κ] (i : Rep α) : EX X Γ (.Dict [] [] pos) (fun r => r = .own fun o => ∃ a, o = ownD κ i a []) := fun B F H σ Q L q =>
  WE.of (dk.empty X pos) fun p hp => q _ (.ref p) F _ rfl (Ext.apart L.same hp) ⟨ownD κ i p [], ⟨p, rfl⟩, fun b hb => by rw [List.mem_singleton.mp hb]; exact ⟨hp, L.same.free hp⟩, rfl, [], upd_same, .nil⟩
theorem st_setD (κ : Type) {α : Type} [ik : Rep κ] [DecidableEq κ] [dk : DKey κ] (i : Rep α) (k : Nat) {n : Str} {p3 spos : Pos} (hr : ∀ ad, ST X rest (Γ.set k (.own (ownD κ i ad []))) E) (hN : X.N.Nodup) (hi : X.N[k]? = some n := by rfl) (hx : L2.Loc X.env.scope n := by first | exact Or.inl rfl | exact Or.inr rfl)
    (hs : swapsWith (.Dict [] [] pos) (some (.Name n p3)) spos.line X.env = pure false := by rfl) (hf : X.fn n = true ∨ X.env.scope.names.lookup n = some .local := by first | exact .inl rfl | exact .inr rfl) : ST X (.Assign [.Name n p3] (.Dict [] [] pos) spos :: rest) Γ E :=
  st_setO k (exo_dict κ i) (fun o ⟨ad, e⟩ => e ▸ hr ad) hN hi hx hs hf
theorem ev_dget {k : Nat} (hr : Room k X.A) {l : Dic κ α} {x : κ} {y : α} (ha : EV X Γ a l) (hb : EV X Γ b x) (hy : look l.l x = some y) (hp : NoSl b := by intro _ _; rfl) : EV X Γ (.Subscript a b pos) y := fun B F H σ Q L q =>
  WE.of (pe_dget (by have := hr.units; omega) peW peW hp) (ha B F H σ _ L fun v F1 H1 e1 r1 => hb B F1 H1 σ _ (L.step e1) fun u F2 H2 e2 r2 => by
    obtain ⟨ad, kvs, rfl, h1, pr⟩ := r1
    obtain ⟨w, hw, rw'⟩ := (DRel.val pr).2 y hy
    have s2 := (L.step (e1.trans e2)).same
    refine ⟨ad, w, rfl, ?_, q w F2 H2 (e1.trans e2) (i.mono e2.ff rw')⟩
    rw [← hw]
    exact dk.get s2 (s2 _ _ (e2.ff _ _ h1)) r2)
theorem din_at {l : Dic κ α} {x : κ} {K : PySem.W.Frag} {F H : Hp} {v u : V} (s : Same F H) (r1 : repDic.rp K F v l) (r2 : ik.rp K F u x) : ∃ ad o, v = .ref ad ∧ DGet H ad u o ∧ o.isSome = (look l.l x).isSome := by
  obtain ⟨ad, kvs, rfl, h1, pr⟩ := r1
  refine ⟨ad, _, rfl, dk.get s (s _ _ h1) r2, ?_⟩
  cases hy : look l.l x with
  | none => rw [(DRel.val pr).1 hy]; rfl
  | some y => obtain ⟨w, hw, _⟩ := (DRel.val pr).2 y hy; rw [hw]; rfl
theorem ev_din {k : Nat} (hr : Room k X.A) {l : Dic κ α} {x : κ} (hb : EV X Γ b x) (ha : EV X Γ a l) (hm : behindInMarks .In a = false := by first | exact nomark _ | rfl) : EV X Γ (.Compare b [.In] [a] pos) (look l.l x).isSome := fun B F H σ Q L q =>
  WE.of (pe_cmp (pc_din (by have := hr.units; omega) peW peW) hm) (hb B F H σ _ L fun u F1 H1 e1 r1 => ha B F1 H1 σ _ (L.step e1) fun v F2 H2 e2 r2 => by
    obtain ⟨ad, o, rfl, g, eo⟩ := din_at (L.step (e1.trans e2)).same r2 (ik.mono e2.ff r1)
    exact ⟨ad, o, rfl, g, q _ F2 H2 (e1.trans e2) (by rw [eo]; rfl)⟩)
theorem ev_dnotin {k : Nat} (hr : Room k X.A) {l : Dic κ α} {x : κ} (hb : EV X Γ b x) (ha : EV X Γ a l) (hm : behindInMarks .NotIn a = false := by first | exact nomark _ | rfl) : EV X Γ (.Compare b [.NotIn] [a] pos) (!(look l.l x).isSome) := fun B F H σ Q L q =>
  WE.of (pe_cmp (pc_dnotin (by have := hr.units; omega) peW peW) hm) (hb B F H σ _ L fun u F1 H1 e1 r1 => ha B F1 H1 σ _ (L.step e1) fun v F2 H2 e2 r2 => by
    obtain ⟨ad, o, rfl, g, eo⟩ := din_at (L.step (e1.trans e2)).same r2 (ik.mono e2.ff r1)
    exact ⟨ad, o, rfl, g, q _ F2 H2 (e1.trans e2) (by rw [eo]; rfl)⟩)
theorem et_din {k : Nat} (hr : Room k X.A) {l : Dic κ α} {x : κ} (hb : EV X Γ b x) (ha : EV X Γ a l) (hm : behindInMarks .In a = false := by first | exact nomark _ | rfl) : ET X Γ (.Compare b [.In] [a] pos) (look l.l x).isSome := fun B F H σ Q L q =>
  WT.of (pt_cmp (pc_din (by have := hr.units; omega) peW peW) hm) (hb B F H σ _ L fun u F1 H1 e1 r1 => ha B F1 H1 σ _ (L.step e1) fun v F2 H2 e2 r2 => by
    obtain ⟨ad, o, rfl, g, eo⟩ := din_at (L.step (e1.trans e2)).same r2 (ik.mono e2.ff r1)
    exact ⟨ad, o, rfl, g, _, rfl, by rw [eo]; exact q F2 H2 (e1.trans e2)⟩)
theorem et_dnotin {k : Nat} (hr : Room k X.A) {l : Dic κ α} {x : κ} (hb : EV X Γ b x) (ha : EV X Γ a l) (hm : behindInMarks .NotIn a = false := by first | exact nomark _ | rfl) : ET X Γ (.Compare b [.NotIn] [a] pos) (!(look l.l x).isSome) := fun B F H σ Q L q =>
  WT.of (pt_cmp (pc_dnotin (by have := hr.units; omega) peW peW) hm) (hb B F H σ _ L fun u F1 H1 e1 r1 => ha B F1 H1 σ _ (L.step e1) fun v F2 H2 e2 r2 => by
    obtain ⟨ad, o, rfl, g, eo⟩ := din_at (L.step (e1.trans e2)).same r2 (ik.mono e2.ff r1)
    exact ⟨ad, o, rfl, g, _, rfl, by rw [eo]; exact q F2 H2 (e1.trans e2)⟩)
/-- d.get(x, y) -/
theorem ev_dget2 {k : Nat} (hr : Room k X.A) {o : Expr} {l : Dic κ α} {x : κ} {y0 : α} {apos : Pos} (ho : EV X Γ o l) (ha : EV X Γ a x) (hb : EV X Γ b y0) (hbase : attributeBase o "get" X.env (eval o X.env) = eval o X.env := by rfl)
    (hfew : ((backTo pos (starEach [a, b] X.env)).all (fun x => !x.1) && (backToKw pos (keywordEach [] X.env)).all (fun x => x.1.isSome) && decide (([a, b] : List Expr).length + ([] : List Keyword).length + (if ([] : List Keyword).isEmpty then 0 else 1) < 30)) = true := by rfl)
    (hline : (apos.endLine == pos.line) = true := by rfl) (ht : backTo pos (starEach [a, b] X.env) = [(false, eval a X.env), (false, eval b X.env)] := by rfl) : EV X Γ (.Call (.Attribute o "get" apos) [a, b] [] pos) ((look l.l x).getD y0) := fun B F H σ Q L q =>
  WE.of (pe_dget2 (by have := hr.units; omega) peW peW peW ⟨hbase, hfew, hline, ht⟩) (ho B F H σ _ L fun v F1 H1 e1 r1 => by
    obtain ⟨ad, kvs, rfl, h1, pr⟩ := r1
    refine ⟨ad, rfl, dk.isD ((L.step e1).same _ _ h1), ha B F1 H1 σ _ (L.step e1) fun u F2 H2 e2 r2 => hb B F2 H2 σ _ (L.step (e1.trans e2)) fun z F3 H3 e3 r3 => ?_⟩
    have e123 := (e1.trans e2).trans e3
    have s3 := (L.step e123).same
    refine ⟨valV kvs x, dk.get s3 (s3 _ _ (e3.ff _ _ (e2.ff _ _ h1))) (ik.mono e3.ff r2), q _ F3 H3 e123 ?_⟩
    cases hy : look l.l x with
    | none => rw [(DRel.val pr).1 hy]; exact r3
    | some y =>
      obtain ⟨w, hw, rw'⟩ := (DRel.val pr).2 y hy
      rw [hw]; exact i.mono (e2.ff.trans e3.ff) rw')
/-- d.get(x) -/
theorem ev_dget1 {k : Nat} (hr : Room k X.A) {o : Expr} {l : Dic κ α} {x : κ} {apos : Pos} (ho : EV X Γ o l) (ha : EV X Γ a x) (hbase : attributeBase o "get" X.env (eval o X.env) = eval o X.env := by rfl)
    (hfew : ((backTo pos (starEach [a] X.env)).all (fun x => !x.1) && (backToKw pos (keywordEach [] X.env)).all (fun x => x.1.isSome) && decide (([a] : List Expr).length + ([] : List Keyword).length + (if ([] : List Keyword).isEmpty then 0 else 1) < 30)) = true := by rfl)
    (hline : (apos.endLine == pos.line) = true := by rfl) (ht : backTo pos (starEach [a] X.env) = [(false, eval a X.env)] := by rfl) : EV X Γ (.Call (.Attribute o "get" apos) [a] [] pos) (look l.l x) := fun B F H σ Q L q =>
  WE.of (pe_dget1 (by have := hr.units; omega) peW peW ⟨hbase, hfew, hline, ht⟩) (ho B F H σ _ L fun v F1 H1 e1 r1 => by
    obtain ⟨ad, kvs, rfl, h1, pr⟩ := r1
    refine ⟨ad, rfl, dk.isD ((L.step e1).same _ _ h1), ha B F1 H1 σ _ (L.step e1) fun u F2 H2 e2 r2 => ?_⟩
    have e12 := e1.trans e2
    have s3 := (L.step e12).same
    refine ⟨valV kvs x, dk.get s3 (s3 _ _ (e2.ff _ _ h1)) r2, q _ F2 H2 e12 ?_⟩
    cases hy : look l.l x with
    | none => rw [(DRel.val pr).1 hy]; rfl
    | some y =>
      obtain ⟨w, hw, rw'⟩ := (DRel.val pr).2 y hy
      rw [hw]; exact i.mono e2.ff rw')
/-- d[x] = e, d an own dict -/
theorem st_dput {k : Nat} (hr0 : Room k X.A) (m : Nat) {n : Str} {ad : Addr} {l : List (κ × α)} {x : κ} {y : α} {sp : Pos} (he : EV X Γ e y) (hi : EV X Γ a x) (hz : l.length < sizeLine) (hr : ST X rest (Γ.set m (.own (ownD κ i ad (put l x y)))) E) (hgm : Γ[m]? = some (.own (ownD κ i ad l)) := by rfl) (hN : X.N[m]? = some n := by rfl)
    (hv : Vis X.env.scope n := by first | exact Or.inl rfl | exact Or.inr (Or.inl rfl) | exact Or.inr (Or.inr rfl)) (hdd : (n == ("__debug__" : Str)) = false := by decide) (hcd : (n == ("__classdict__" : Str)) = false := by decide)
    (hs : swapsWith e (some (.Subscript (.Name n p) a sp)) pos.line X.env = pure false := by rfl) :
    ST X (.Assign [.Subscript (.Name n p) a sp] e pos :: rest) Γ E := fun B F H σ D L ed => by
  obtain ⟨v0, ea, ⟨rfl, _⟩, _⟩ := slot_own L hgm
  refine WP.cons (ps_dput (by have := hr0.units; omega) (pe_var hN hv hdd hcd) peW peW hs) (he B F H σ _ L fun v F1 H1 e1 r1 => ⟨_, ea, hi B F1 H1 σ _ (L.step e1) fun u F2 H2 e2 r2 => ?_⟩)
  have L2 := L.step (e1.trans e2)
  obtain ⟨v2, ev2, ⟨_, kvs, ha, pr⟩, _⟩ := slot_own L2 hgm
  have hl : kvs.length < sizeLine := by rw [Paired.length pr]; exact hz
  refine ⟨ad, _, rfl, dk.put L2.same ha r2 hl, hr B F2 _ σ D (L2.updO hgm ea (fun b w hb q => ?_) (fun b hb => ?_) (fun b hb => .inl hb) ⟨rfl, _, upd_same, DRel.put pr (i.mono e2.ff r1)⟩) (ed.weak (e1.trans e2).ff)⟩
  · rw [upd_ne fun z => hb (List.mem_singleton.mpr z)]; exact q
  · rw [List.mem_singleton.mp hb, upd_same]; exact fun z => nomatch z
end
section
variable {X : Cx} {Γ : List Slot} {α : Type} {i : Rep α} {pos p p2 : Pos} {e a b c : Expr} {es : List Expr} {E : SE} {rest : List Stmt}
def rDictC : List V → Hp → VK → Prop := fun xs H Q => ∃ (a : Addr) (kvs : List (Key × V)), xs = [.ref a] ∧ H a = some (.dK kvs) ∧ ∀ p, H p = none → Q (.ref p) (upd H p (.dK kvs))
theorem call_dictC : CallR X (.type "dict") rDictC := by
  intro pins s σ H xs us Q I r h
  obtain ⟨a, kvs, rfl, ha, q⟩ := h
  cases r with
  | cons r t =>
    cases t
    cases (show _ = Value.ref a from r)
    exact d_copyOf I (.inl ha) fun p s' hp I' => ⟨.ref p, _, I', rfl, q p hp⟩
/-- dict(d), d of text keys -/
theorem exo_dictC {l : Dic Tx α} (hm : X.mg "dict" = none) (h : EV X Γ e l) (hg : Gl X "dict" := by rfl) (hs : starEach [e] X.env = (false, eval e X.env) :: starEach [] X.env := by exact star_of rfl) (hpl : (backTo pos (starEach [] X.env)).any (·.1) = false := by exact pl_of rfl) :
    EX X Γ (.Call (.Name "dict" p) [e] [] pos) (fun r => r = .own fun o => ∃ a, o = ownD Tx i a l.l) := fun B F H σ Q L q =>
  WE.of (pe_callTy call_dictC hg hm (by decide +kernel) (pa_cons peW pa_nil hs) (by decide) (by decide) hs hpl) (h B F H σ _ L fun v F1 H1 e1 r1 => by
    obtain ⟨ad, kvs, rfl, ha, pr⟩ := r1
    have s1 := (L.step e1).same
    exact ⟨ad, _, rfl, s1 _ _ ha, fun q' hq => q _ (.ref q') F1 _ rfl (e1.trans (Ext.apart s1 hq)) ⟨ownD Tx i q' l.l, ⟨q', rfl⟩, fun b hb => by rw [List.mem_singleton.mp hb]; exact ⟨e1.hs.free hq, s1.free hq⟩, rfl, kvs, upd_same, pr⟩⟩)
/-- values that == tells by themselves -/
class FlatV (α : Type) [i : Rep α] : Prop where
  fl : ∀ {K F v x}, i.rp K F v x → flatB v = true
  inj : ∀ {K F F' v w} {x : α}, i.rp K F v x → i.rp K F' w x → v = w
instance : FlatV Tx := ⟨fun {_ _ v x} h => by obtain rfl : v = .str (sx x) := h; rfl, fun {_ _ _ v w x} h1 h2 => by obtain rfl : v = .str (sx x) := h1; obtain rfl : w = .str (sx x) := h2; rfl⟩
instance : FlatV Int := ⟨fun {_ _ v x} h => by obtain rfl : v = .int x := h; rfl, fun {_ _ _ v w x} h1 h2 => by obtain rfl : v = .int x := h1; obtain rfl : w = .int x := h2; rfl⟩
theorem dic_same {K : PySem.W.Frag} {F : Hp} {α : Type} [i : Rep α] [FlatV α] : ∀ {ks ls : List (Tx × V)} {l : List (Tx × α)}, DRel i K F ks l → DRel i K F ls l → ks = ls
  | _, _, _, .nil, .nil => rfl
  | _, _, _, .cons r t, .cons r' t' => by
    rw [dic_same t t']
    congr 1
    exact Prod.ext (r.1.trans r'.1.symm) (FlatV.inj r.2 r'.2)
theorem dic_all {K : PySem.W.Frag} {F : Hp} {α : Type} [i : Rep α] [FlatV α] {ks : List (Tx × V)} {l : List (Tx × α)} (h : DRel i K F ks l) (nd : (l.map (·.1)).Nodup) : ∀ p ∈ ks.map (fun p : Tx × V => ((Sum.inr (sx p.1) : Key), p.2)), valV (ks.map fun p : Tx × V => ((Sum.inr (sx p.1) : Key), p.2)) p.1 = some p.2 ∧ flatB p.2 = true := by
  intro p hp
  obtain ⟨q, hq, rfl⟩ := List.mem_map.mp hp
  have hk : ks.map (·.1) = l.map (·.1) := by
    clear hp hq nd
    induction h with
    | nil => rfl
    | cons r _ ih => rw [List.map_cons, List.map_cons, ih, r.1]
  refine ⟨?_, ?_⟩
  · show valV _ (Sum.inr (sx q.1)) = _
    rw [valV_inj inr_sx]
    rw [← hk] at nd
    clear hp hk h
    induction ks with
    | nil => cases hq
    | cons z r ih =>
      rw [List.map_cons, List.nodup_cons] at nd
      rcases List.mem_cons.mp hq with e | h
      · subst e; exact valV_pos rfl
      · rw [valV_neg fun e => nd.1 (e ▸ List.mem_map.mpr ⟨_, h, rfl⟩)]
        exact ih nd.2 h
  · clear hk hp nd
    induction h with
    | nil => cases hq
    | cons r _ ih =>
      rcases List.mem_cons.mp hq with e | h
      · subst e; exact FlatV.fl r.2
      · exact ih h
theorem o_eqDic {α : Type} [i : Rep α] [FlatV α] {l : Dic Tx α} {k : Nat} (hr : Room k X.A) (nd : (l.l.map (·.1)).Nodup) : OB X (compareOp .Eq) l l true := ob_flat (op_eq_dictA hr.units0) fun F H v u Q s r1 r2 q => by
  obtain ⟨a, ks, rfl, h1, p1⟩ := r1
  obtain ⟨b, ls, rfl, h2, p2⟩ := r2
  have := dic_same p1 p2
  subst this
  exact ⟨a, b, _, _, rfl, rfl, s _ _ h1, s _ _ h2, rfl, dic_all p1 nd, q _ rfl⟩
theorem o_neDic {α : Type} [i : Rep α] [FlatV α] {l : Dic Tx α} {k : Nat} (hr : Room k X.A) (nd : (l.l.map (·.1)).Nodup) : OB X (compareOp .NotEq) l l false := ob_flat (op_ne_dictA hr.units0) fun F H v u Q s r1 r2 q => by
  obtain ⟨a, ks, rfl, h1, p1⟩ := r1
  obtain ⟨b, ls, rfl, h2, p2⟩ := r2
  have := dic_same p1 p2
  subst this
  exact ⟨a, b, _, _, rfl, rfl, s _ _ h1, s _ _ h2, rfl, dic_all p1 nd, q _ rfl⟩
end
end Tw

namespace Tw
open PySem PySem.Spec PyProof.Rows L2 TL

/-! ### tuples of unlike things -/
class HetT (α : Type) where
  els : α → List Slot
instance (priority := low) repHetT {α : Type} [t : HetT α] : Rep α := ⟨fun K F v x => ∃ a vs, v = .ref a ∧ F a = some (.tup vs) ∧ HetOk K F vs (t.els x), fun s ⟨a, vs, e, h, r⟩ => ⟨a, vs, e, s _ _ h, r.mono s⟩⟩
section
variable {X : Cx} {Γ : List Slot} {α β γ δ : Type} {i : Rep α} {j : Rep β} {l : Rep γ} {pos p p2 : Pos} {e a b c : Expr} {es : List Expr} {E : SE} {rest body : List Stmt}
theorem ev_tupX {α : Type} [t : HetT α] {x1} {x : α} {A : List Slot} (h : EA X Γ es A) (hx : t.els x = A := by rfl) (hz : A.length ≤ 1000 := by exact Nat.le_of_ble_eq_true rfl) : EV X Γ (.Tuple es x1 pos) x := fun B F H σ Q L q =>
  WE.of (pe_tup paW) (h B F H σ _ L fun vs F1 H1 e1 r1 => ⟨by rw [r1.len]; exact sl_small hz, fun p hp => by
    have s1 := (L.step e1).same
    have ea := Ext.new (o := .tup vs) s1 hp
    exact q (.ref p) _ _ (e1.trans ea) ⟨p, vs, rfl, upd_same, by rw [hx]; exact (r1.het).mono ea.ff⟩⟩)
theorem ev_ixX {α : Type} [t : HetT α] {x : α} {n : Int} {y : β} {k : Nat} (ha : EV X Γ a x) (hb : EV X Γ b n) (hk : ixN (t.els x).length n = some k) (hx : (t.els x)[k]? = some (.val j y)) (hp : PlainIx b := by intro _ _; rfl) : EV X Γ (.Subscript a b pos) y := fun B F H σ Q L q =>
  WE.of (pe_ix ix_tup peW peW hp) (ha B F H σ _ L fun v F1 H1 e1 r1 => hb B F1 H1 σ _ (L.step e1) fun u F2 H2 e2 r2 => by
    obtain ⟨ad, vs, rfl, h1, r⟩ := r1
    obtain ⟨w, hw, rw'⟩ := r.get hx
    have s2 := (L.step (e1.trans e2)).same
    exact ⟨ad, vs, n, w, rfl, r2, st_of s2 (e2.ff _ _ h1), by unfold atI; rw [r.len, hk]; exact hw, q w F2 H2 (e1.trans e2) (j.mono e2.ff rw')⟩)
theorem pg3 (k1 k2 k3 : Nat) {n1 n2 n3 : Str} {q1 q2 q3 tp : Pos} {kk} (h1 : PG X (.Name n1 q1) (gName k1)) (h2 : PG X (.Name n2 q2) (gName k2)) (h3 : PG X (.Name n3 q3) (gName k3)) (hc : X.calm = true := by rfl)
    (a1 : (assignEach [.Name n1 q1, .Name n2 q2, .Name n3 q3] X.env).map (·.2) = assign (.Name n1 q1) X.env :: (assignEach [.Name n2 q2, .Name n3 q3] X.env).map (·.2) := by rfl)
    (a2 : (assignEach [.Name n2 q2, .Name n3 q3] X.env).map (·.2) = assign (.Name n2 q2) X.env :: (assignEach [.Name n3 q3] X.env).map (·.2) := by rfl)
    (a4 : (assignEach [.Name n3 q3] X.env).map (·.2) = assign (.Name n3 q3) X.env :: (assignEach [] X.env).map (·.2) := by rfl)
    (hn : (assignEach [.Name n1 q1, .Name n2 q2, .Name n3 q3] X.env).length = 3 := by rfl) (hst : (assignEach [.Name n1 q1, .Name n2 q2, .Name n3 q3] X.env).findIdx? (·.1) = none := by rfl) :
    PG X (.Tuple [.Name n1 q1, .Name n2 q2, .Name n3 q3] kk tp) (gTup X.K 3 (gCons (gName k1) (gCons (gName k2) (gCons (gName k3) gNil)))) :=
  pg_tup hc (pgs_cons h1 (pgs_cons h2 (pgs_cons h3 pgs_nil a4) a2) a1) hn hst
/-- a, b, c = e, a tuple of three unlike things -/
theorem st_unpack3X {α' : Type} [t : HetT α'] (k1 k2 k3 : Nat) {n1 n2 n3 : Str} {x : α'} {x1 : α} {x2 : β} {x3 : γ} {q1 q2 q3 tp : Pos} {kk} (he : EV X Γ e x) (hr : ST X rest (((Γ.set k1 (.val i x1)).set k2 (.val j x2)).set k3 (.val l x3)) E)
    (hg : PG X (.Tuple [.Name n1 q1, .Name n2 q2, .Name n3 q3] kk tp) (gTup X.K 3 (gCons (gName k1) (gCons (gName k2) (gCons (gName k3) gNil))))) (hx : t.els x = [.val i x1, .val j x2, .val l x3] := by rfl)
    (hs : swapsWithSole [.Tuple [.Name n1 q1, .Name n2 q2, .Name n3 q3] kk tp] e pos.line X.env = pure false := by rfl) (hw : swappedStores [.Tuple [.Name n1 q1, .Name n2 q2, .Name n3 q3] kk tp] e X.env = pure none := by rfl)
    (h1 : (assignEach [.Tuple [.Name n1 q1, .Name n2 q2, .Name n3 q3] kk tp] X.env).map (·.2) = [assign (.Tuple [.Name n1 q1, .Name n2 q2, .Name n3 q3] kk tp) X.env] := by rfl) :
    ST X (.Assign [.Tuple [.Name n1 q1, .Name n2 q2, .Name n3 q3] kk tp] e pos :: rest) Γ E := fun B F H σ D L ed =>
  WP.cons (ps_asg peW hg hs hw h1) (he B F H σ _ L fun v F1 H1 e1 r1 => by
    obtain ⟨ad, vs, rfl, ha, pr⟩ := r1
    have L1 := L.step e1
    rw [hx] at pr
    match vs, pr with
    | [v1, v2, v3], ⟨p1, p2, p3, _⟩ =>
      exact ⟨ad, _, rfl, st_of L1.same ha, rfl, v1, _, rfl, v2, _, rfl, v3, _, rfl, rfl, hr B F1 H1 _ D (((L1.putV k1 p1).putV k2 p2).putV k3 p3) (ed.weak e1.ff)⟩)
/-- a, b = e, a pair -/
theorem st_unpack2 (k1 k2 : Nat) {n1 n2 : Str} {x : α × β} {q1 q2 tp : Pos} {kk} (he : EV X Γ e x) (hr : ST X rest ((Γ.set k1 (.val i x.1)).set k2 (.val j x.2)) E)
    (hg : PG X (.Tuple [.Name n1 q1, .Name n2 q2] kk tp) (gTup X.K 2 (gCons (gName k1) (gCons (gName k2) gNil))))
    (hs : swapsWithSole [.Tuple [.Name n1 q1, .Name n2 q2] kk tp] e pos.line X.env = pure false := by rfl) (hw : swappedStores [.Tuple [.Name n1 q1, .Name n2 q2] kk tp] e X.env = pure none := by rfl)
    (h1 : (assignEach [.Tuple [.Name n1 q1, .Name n2 q2] kk tp] X.env).map (·.2) = [assign (.Tuple [.Name n1 q1, .Name n2 q2] kk tp) X.env] := by rfl) :
    ST X (.Assign [.Tuple [.Name n1 q1, .Name n2 q2] kk tp] e pos :: rest) Γ E := fun B F H σ D L ed =>
  WP.cons (ps_asg peW hg hs hw h1) (he B F H σ _ L fun v F1 H1 e1 r1 => by
    obtain ⟨ad, v1, v2, rfl, ha, p1, p2⟩ := r1
    have L1 := L.step e1
    exact ⟨ad, _, rfl, st_of L1.same ha, rfl, v1, _, rfl, v2, _, rfl, rfl, hr B F1 H1 _ D ((L1.putV k1 p1).putV k2 p2) (ed.weak e1.ff)⟩)
/-- xs[n], xs an own list -/
theorem ev_ixLO (k : Nat) {nm : Str} {ad : Addr} {xs : List α} {n : Int} {y : α} (hb : EV X Γ b n) (hx : atI xs n = some y) (hg : Γ[k]? = some (.lst i ad xs) := by rfl) (hN : X.N[k]? = some nm := by rfl)
    (hv : Vis X.env.scope nm := by first | exact Or.inl rfl | exact Or.inr (Or.inl rfl) | exact Or.inr (Or.inr rfl)) (hdd : (nm == ("__debug__" : Str)) = false := by decide) (hcd : (nm == ("__classdict__" : Str)) = false := by decide) (hp : PlainIx b := by intro _ _; rfl) : EV X Γ (.Subscript (.Name nm p) b pos) y := fun B F H σ Q L q => by
  obtain ⟨vs0, ea, _⟩ := slot_lst L hg
  refine WE.of (pe_ix ix_list (pe_var hN hv hdd hcd) peW hp) ⟨_, ea, hb B F H σ _ L fun u F1 H1 e1 r1 => ?_⟩
  obtain ⟨vs, _, _, _, h1, pr⟩ := slot_lst (L.step e1) hg
  obtain ⟨k', hk, hx⟩ := Option.bind_eq_some_iff.mp hx
  obtain ⟨w, hw, rw'⟩ := pgetL pr hx
  exact ⟨ad, vs, n, w, rfl, r1, .inl (.inl h1), by unfold atI; rw [Paired.length pr, hk]; exact hw, q w F1 H1 e1 rw'⟩
/-- list(xs), xs a list of unlike things -/
theorem exo_listHet {α : Type} [t : Het α] {x : α} (hm : X.mg "list" = none) (h : EV X Γ e x) (hg : Gl X "list" := by rfl) (hs : starEach [e] X.env = (false, eval e X.env) :: starEach [] X.env := by exact star_of rfl) (hpl : (backTo pos (starEach [] X.env)).any (·.1) = false := by exact pl_of rfl) :
    EX X Γ (.Call (.Name "list" p) [e] [] pos) (fun r => r = .own fun o => ∃ a, o = ownH a (t.els x)) := fun B F H σ Q L q =>
  WE.of (pe_callTy call_list_of hg hm (by decide +kernel) (pa_cons peW pa_nil hs) (by decide) (by decide) hs hpl) (h B F H σ _ L fun v F1 H1 e1 r1 => by
    obtain ⟨ad, vs, rfl, ha, pr⟩ := r1
    have s1 := (L.step e1).same
    exact ⟨ad, vs, rfl, .inl (sq_of s1 ha), fun q' hq => q _ (.ref q') F1 _ rfl (e1.trans (Ext.apart s1 hq)) ⟨ownH q' (t.els x), ⟨q', rfl⟩, fun b hb => by rw [List.mem_singleton.mp hb]; exact ⟨e1.hs.free hq, s1.free hq⟩, rfl, vs, upd_same, pr⟩⟩)
theorem exx_imp {P P' : Ret → Prop} {R R' : Exn → Prop} (h : EXX X Γ e P R) (f : ∀ r, P r → P' r) (g : ∀ y, R y → R' y) : EXX X Γ e P' R' := fun B F H σ Q L q z => h B F H σ Q L (fun r v F' H' hp => q r v F' H' (f r hp)) (fun y u d F' H' hy => z y u d F' H' (g y hy))
/-! ### dicts written out -/
theorem ext_disp {F H F2 H2 : Hp} {p : Addr} {o u : HO} (s : Same F H) (hp : H p = none) (e : Ext F (upd H p o) F2 H2) : Ext F H F2 (upd H2 p u) := by
  have fp : F p = none := s.free hp
  have f2 : F2 p = none := e.nw p fp (by rw [upd_same]; exact fun z => nomatch z)
  refine ⟨e.ff, same_upd e.fh f2, fun b w _ h => ?_, fun b _ h1 h2 => e.nw b h1 ?_, fun _ z => z.elim⟩
  · have hb : b ≠ p := ne_of_none h hp
    rw [upd_ne hb]
    exact e.hs _ _ (by rw [upd_ne hb]; exact h)
  · by_cases hb : b = p
    · subst hb; rw [upd_same]; exact fun z => nomatch z
    · rw [upd_ne hb]; exact h2
theorem exo_disp1 {x : Tx} {y : α} (ha : EV X Γ a x) (hb : EV X Γ b y) : EX X Γ (.Dict [some a] [b] pos) (fun r => r = .own fun o => ∃ ad, o = ownD Tx i ad [(x, y)]) := fun B F H σ Q L q =>
  WE.of (pe_disp (pps_cons peW peW pps_nil) (by rfl) (by rfl) (fun z => by cases z) (Nat.le_of_ble_eq_true rfl)) fun p hp => by
    have s := L.same
    refine ha B F _ σ _ (L.step (Ext.apart (o := .dK []) s hp)) fun v F1 H1 e1 r1 => hb B F1 H1 σ _ ((L.step (Ext.apart (o := .dK []) s hp)).step e1) fun u F2 H2 e2 r2 => ?_
    have e12 := e1.trans e2
    obtain rfl : v = .str (sx x) := r1
    refine ⟨e12.hs _ _ upd_same, [(.inr (sx x), u)], rfl, Nat.le_of_ble_eq_true rfl, ?_⟩
    have ex := ext_disp (u := .dK (mergeK [] [(.inr (sx x), u)])) s hp e12
    exact q _ (.ref p) F2 _ rfl ex ⟨ownD Tx i p [(x, y)], ⟨p, rfl⟩, fun b hb => by rw [List.mem_singleton.mp hb]; exact ⟨hp, e12.nw p (s.free hp) (by rw [upd_same]; exact fun z => nomatch z)⟩, rfl, [(x, u)], upd_same, .cons ⟨rfl, r2⟩ .nil⟩
theorem exo_disp2 {x x' : Tx} {y y' : α} {a' b' : Expr} (ha : EV X Γ a x) (hb : EV X Γ b y) (ha' : EV X Γ a' x') (hb' : EV X Γ b' y') : EX X Γ (.Dict [some a, some a'] [b, b'] pos) (fun r => r = .own fun o => ∃ ad, o = ownD Tx i ad (put [(x, y)] x' y')) := fun B F H σ Q L q =>
  WE.of (pe_disp (pps_cons peW peW (pps_cons peW peW pps_nil)) (by rfl) (by rfl) (fun z => by cases z) (Nat.le_of_ble_eq_true rfl)) fun p hp => by
    have s := L.same
    have L0 := L.step (Ext.apart (o := .dK []) s hp)
    refine ha B F _ σ _ L0 fun v F1 H1 e1 r1 => hb B F1 H1 σ _ (L0.step e1) fun u F2 H2 e2 r2 => ha' B F2 H2 σ _ (L0.step (e1.trans e2)) fun v' F3 H3 e3 r3 => hb' B F3 H3 σ _ (L0.step ((e1.trans e2).trans e3)) fun u' F4 H4 e4 r4 => ?_
    have e14 := ((e1.trans e2).trans e3).trans e4
    obtain rfl : v = .str (sx x) := r1
    obtain rfl : v' = .str (sx x') := r3
    refine ⟨e14.hs _ _ upd_same, [(.inr (sx x), u), (.inr (sx x'), u')], rfl, Nat.le_of_ble_eq_true rfl, ?_⟩
    have ex := ext_disp (u := .dK (mergeK [] [(.inr (sx x), u), (.inr (sx x'), u')])) s hp e14
    refine q _ (.ref p) F4 _ rfl ex ⟨ownD Tx i p (put [(x, y)] x' y'), ⟨p, rfl⟩, fun b hb => by rw [List.mem_singleton.mp hb]; exact ⟨hp, e14.nw p (s.free hp) (by rw [upd_same]; exact fun z => nomatch z)⟩, rfl, putK [(x, u)] x' u', ?_, DRel.put (.cons ⟨rfl, i.mono (e3.ff.trans e4.ff) r2⟩ .nil) r4⟩
    rw [upd_same]
    show some (HO.dK (mergeK [] [(.inr (sx x), u), (.inr (sx x'), u')])) = some (HO.dK ((putK [(x, u)] x' u').map fun p => (Sum.inr (sx p.1), p.2)))
    rw [← putK_inj inr_sx]
    rfl
end
/-! ### except without a name -/
section
variable {X : Cx} {Γ : List Slot} {α β γ : Type} {pos pos' np p p2 : Pos} {e : Expr} {E : SE} {rest body suite : List Stmt} {b₀ : Stmt}
theorem st_tryO {x : Str} (hN : X.N.Nodup) (hc : XC X.K X.mg x)
    (hb : ∀ pn xe, PassesOwn (model X.prog X.w) X.A X.env xe → ST (X.tr pn xe) body Γ { E with nx := fun Γ' => ST X rest Γ' E, ex := fun Γ' y => (XSub X.K y.cls x true ∧ ∀ a pn, ST (X.suite a pn) (b₀ :: suite) Γ'
        { nx := fun Γ2 => ST X rest Γ2 E, rt := E.rt, bk := E.bk, ct := E.ct, ex := fun _ _ => False }) ∨ (XSub X.K y.cls x false ∧ E.ex Γ' y) })
    (hg : Gl X x := by rfl) (hdb : (x == ("__debug__" : Str)) = false := by decide) (hs : X.stack = X.env :: X.outer := by rfl) (hf : X.env.frame = some X.env.locals := by rfl) :
    ST X (.Try body [.ExceptHandler (some (.Name x np)) none (b₀ :: suite) pos'] [] [] pos :: rest) Γ E := fun B F H σ D L ed => by
  obtain ⟨C, xC, gC⟩ := hc
  refine WP.cons (ps_try_only (tb := fun W D σ H => ∀ pn xe, Takes (X.tr pn xe) W → PassesOwn (model X.prog X.w) X.A X.env xe → WP (X.tr pn xe) body D σ H) (ts := fun a _ _ D σ H => ∀ pn, WP (X.suite a pn) (b₀ :: suite) D σ H) hs hf ⟨hg, hdb, .inl gC⟩ takesW
    (fun W pn xe tk hp => ⟨fun pins s σ H D I h => (h pn xe tk hp).go pins s I⟩) (fun a oe _ _ pn _ _ => ⟨fun pins s σ H D I h => (h ((a, oe) :: pn)).go pins s I⟩)) ?_
  intro pn xe tk hp
  refine hb pn xe hp B F H σ _ L ⟨fun F1 H1 σ1 Γ1 s1 h1 L1 => h1 B F1 H1 σ1 D L1 (ed.weak s1), ed.rt, ed.bk, ed.ct, fun F1 H1 σ1 Γ1 y u d s1 h1 L1 ok => XW.of tk ?_⟩
  obtain ⟨Cy, eu, nCy, _⟩ := id ok
  subst eu
  rcases h1 with ⟨hsub, hsu⟩ | ⟨hsub, hE⟩
  · refine ⟨true, (hsub Cy C nCy xC.ns).1, fun _ a ha pn => ?_, fun z => nomatch z⟩
    exact hsu a pn B F1 H1 σ1 _ L1 ⟨fun F5 H5 σ5 Γ5 s5 h5 L5 => h5 B F5 H5 _ D L5 (ed.weak (s1.trans s5)), ed.rt, fun F5 H5 σ5 Γ5 s5 h5 L5 => ed.bk F5 H5 _ _ (s1.trans s5) h5 L5, fun F5 H5 σ5 Γ5 s5 h5 L5 => ed.ct F5 H5 _ _ (s1.trans s5) h5 L5, fun _ _ _ _ _ _ _ _ z => z.elim⟩
  · exact ⟨false, (hsub Cy C nCy xC.ns).1, (fun z => nomatch z), fun _ => ed.ex F1 H1 σ1 Γ1 y _ d s1 hE L1 ok⟩
/-- less is said of a new own thing -/
theorem exo_imp {P0 P1 : Own → Prop} (h : EX X Γ e (fun r => r = .own P0)) (f : ∀ o, P0 o → P1 o) : EX X Γ e (fun r => r = .own P1) := fun B F H σ Q L q =>
  h B F H σ Q L fun r v F1 H1 er e1 ok => by
    subst er
    obtain ⟨o, p0, rest⟩ := ok
    exact q (.own P1) v F1 H1 rfl e1 ⟨o, f o p0, rest⟩
end
end Tw

namespace Tw
open PySem PySem.Spec PyProof.Rows L2 TL
theorem cnt_nodup (xs : List Str) : ∀ i, i ≤ xs.length → (SetS.cnt xs i = i ↔ (xs.take i).Nodup)
  | 0, _ => by simp [SetS.cnt]
  | i + 1, hi => by
    have ih := cnt_nodup xs i (by omega)
    have le := SetS.cnt_le xs i
    have e : xs.take (i + 1) = xs.take i ++ [xs.getD i Str.empty] := by
      rw [List.take_succ, List.getElem?_eq_getElem (by omega), List.getD_eq_getElem?_getD, List.getElem?_eq_getElem (by omega)]
      rfl
    rw [e, List.nodup_append]
    unfold SetS.cnt
    have hm : (xs.take i).any (· == xs.getD i Str.empty) = true ↔ xs.getD i Str.empty ∈ xs.take i := by
      rw [List.any_eq_true]
      exact ⟨fun ⟨z, h1, h2⟩ => (beq_iff_eq.mp h2) ▸ h1, fun h => ⟨_, h, by simp⟩⟩
    split
    · rename_i h
      refine ⟨fun z => by omega, fun ⟨_, _, z⟩ => ?_⟩
      exact absurd rfl (z _ (hm.mp h) _ (List.mem_singleton.mpr rfl))
    · rename_i h
      have h' := fun z => h (hm.mpr z)
      rw [Nat.add_right_cancel_iff, ih]
      refine ⟨fun z => ⟨z, by simp, fun a ha b hb q => ?_⟩, fun z => z.1⟩
      rw [List.mem_singleton.mp hb] at q
      exact h' (q ▸ ha)
def unlike (x : Tx) : Nat := SetS.cnt (PyProof.Rows.signs (sx x)) (PyProof.Rows.signs (sx x)).length
theorem signs_sx (x : Tx) : PyProof.Rows.signs (sx x) = x.map fun c => ⟨#[c]⟩ := by
  unfold PyProof.Rows.signs sx
  simp
theorem unlike_nodup (x : Tx) : unlike x = x.length ↔ x.Nodup := by
  have h := cnt_nodup (PyProof.Rows.signs (sx x)) (PyProof.Rows.signs (sx x)).length (Nat.le_refl _)
  have l : (PyProof.Rows.signs (sx x)).length = x.length := by rw [signs_sx, List.length_map]
  unfold unlike
  rw [List.take_length] at h
  rw [l] at h ⊢
  rw [h, signs_sx]
  have inj : ∀ a b : Nat, (⟨#[a]⟩ : Str) = ⟨#[b]⟩ → a = b := fun a b e => by simpa using e
  constructor
  · intro q
    exact (List.pairwise_map.mp q).imp fun {a b} n e => n (by rw [e])
  · intro q
    exact List.pairwise_map.mpr (q.imp fun {a b} n e => n (inj a b e))
section
variable {X : Cx} {Γ : List Slot} {α β γ : Type} {i : Rep α} {j : Rep β} {pos p p2 : Pos} {e a b c : Expr} {es : List Expr} {E : SE} {rest body : List Stmt}
/-- len(set(text)) -/
theorem ev_lenSet {x : Tx} {q0 : Pos} (m1 : X.mg "len" = none) (m2 : X.mg "set" = none) (h : EV X Γ e x) (hz : x.length < 4000) (g1 : Gl X "len" := by rfl) (g2 : Gl X "set" := by rfl) (hc : X.calm = true := by rfl) (hs : starEach [e] X.env = (false, eval e X.env) :: starEach [] X.env := by exact star_of rfl) :
    EV X Γ (.Call (.Name "len" p) [.Call (.Name "set" p2) [e] [] q0] [] pos) ((unlike x : Nat) : Int) := fun B F H σ Q L q =>
  WE.of (pe_lenSetS hc g1 m1 g2 m2 peW hs) (h B F H σ _ L fun v F1 H1 e1 r1 => by
    obtain rfl : v = .str (sx x) := r1
    exact ⟨sx x, rfl, by rw [sx_len]; unfold scanBound; omega, q _ F1 H1 e1 rfl⟩)
theorem cnt_count (c : Nat) : ∀ x : Tx, PyProof.Rows.cnt c x = (x.count c : Int)
  | [] => rfl
  | n :: r => by
    rw [PyProof.Rows.cnt_cons, cnt_count c r, List.count_cons]
    by_cases h : n = c
    · simp [h]; omega
    · simp [h]
/-- text.count(sign) -/
theorem ev_count1 {o : Expr} {x : Tx} {y : Nat} {apos : Pos} (ho : EV X Γ o x) (he : EV X Γ e ([y] : Tx)) (hbase : attributeBase o "count" X.env (eval o X.env) = eval o X.env := by rfl)
    (hfew : ((backTo pos (starEach [e] X.env)).all (fun x => !x.1) && (backToKw pos (keywordEach [] X.env)).all (fun x => x.1.isSome) && decide ([e].length + ([] : List Keyword).length + (if ([] : List Keyword).isEmpty then 0 else 1) < 30)) = true := by rfl)
    (hline : (apos.endLine == pos.line) = true := by rfl) (hs : starEach [e] X.env = (false, eval e X.env) :: starEach [] X.env := by exact star_of rfl) (hplain : (backTo pos (starEach [] X.env)).any (·.1) = false := by rfl) :
    EV X Γ (.Call (.Attribute o "count" apos) [e] [] pos) ((x.count y : Nat) : Int) := fun B F H σ Q L q =>
  WE.of (pe_bm PySem.F.plainAttrs_str PySem.F.slot_str_count PySem.F.type_str_count mt_count peW (pa_cons peW pa_nil hs) hbase hfew hline hs hplain) (ho B F H σ _ L fun v F1 H1 e1 r1 => by
    obtain rfl : v = .str (sx x) := r1
    refine ⟨rfl, he B F1 H1 σ _ (L.step e1) fun u F2 H2 e2 r2 => ?_⟩
    obtain rfl : u = .str (sx [y]) := r2
    refine ⟨sx x, sx [y], rfl, rfl, ?_⟩
    have e3 : PySem.Txt.count (sx x) (sx [y]) = (x.count y : Int) := (PyProof.Rows.count_cnt (sx x) y).trans (by rw [← cnt_count]; rfl)
    rw [e3]
    exact q _ F2 H2 (e1.trans e2) rfl)
/-- xs.extend(e), xs an own list -/
theorem st_extend (k : Nat) {n : Str} {ad : Addr} {xs ys : List α} {apos cpos : Pos} (he : EN X Γ e ys) (hr : ST X rest (Γ.set k (.lst i ad (xs ++ ys))) E) (hz : xs.length + ys.length ≤ sizeLine) (hg : Γ[k]? = some (.lst i ad xs) := by rfl) (hN : X.N[k]? = some n := by rfl)
    (hv : Vis X.env.scope n := by first | exact Or.inl rfl | exact Or.inr (Or.inl rfl) | exact Or.inr (Or.inr rfl)) (hd : (n == ("__debug__" : Str)) = false := by decide) (hcd : (n == ("__classdict__" : Str)) = false := by decide)
    (hbase : attributeBase (.Name n p) "extend" X.env (eval (.Name n p) X.env) = eval (.Name n p) X.env := by rfl)
    (hfew : ((backTo cpos (starEach [e] X.env)).all (fun x => !x.1) && (backToKw cpos (keywordEach [] X.env)).all (fun x => x.1.isSome) && decide ([e].length + ([] : List Keyword).length + (if ([] : List Keyword).isEmpty then 0 else 1) < 30)) = true := by rfl)
    (hline : (apos.endLine == cpos.line) = true := by rfl) (hs : starEach [e] X.env = (false, eval e X.env) :: starEach [] X.env := by exact star_of rfl) (hplain : (backTo cpos (starEach [] X.env)).any (·.1) = false := by rfl)
    (hsw : swapsWith (.Call (.Attribute (.Name n p) "extend" apos) [e] [] cpos) none pos.line X.env = pure false := by rfl) :
    ST X (.Expr (.Call (.Attribute (.Name n p) "extend" apos) [e] [] cpos) pos :: rest) Γ E := fun B F H σ D L ed => by
  obtain ⟨vs, ea, fa, ba, ha, pr⟩ := slot_lst L hg
  refine WP.cons (ps_expr (pe_bm PySem.F.plainAttrs_list PySem.F.slot_list_extend PySem.F.type_list_extend mt_extend (pe_var hN hv hd hcd) (pa_cons peW pa_nil hs) hbase hfew hline hs hplain) hsw) ?_
  refine ⟨_, ea, .inl ⟨rfl, _, .inl (.inl ha)⟩, he B F H σ _ L fun ad2 vs2 F1 H1 e1 h2 f2 h2' pr2 => ?_⟩
  have L1 := L.step e1
  obtain ⟨vs1, _, _, _, ha1, pr1⟩ := slot_lst L1 hg
  refine ⟨ad, ad2, vs1, vs2, rfl, rfl, ha1, h2', by rw [Paired.length pr1, Paired.length pr2]; exact hz, ?_⟩
  exact hr B F1 _ σ D (L1.updL hg (papp pr1 pr2)) (ed.weak e1.ff)
/-- xs.reverse(), xs an own list -/
theorem st_reverse (k : Nat) {n : Str} {ad : Addr} {xs : List α} {apos cpos : Pos} (hr : ST X rest (Γ.set k (.lst i ad xs.reverse)) E) (hg : Γ[k]? = some (.lst i ad xs) := by rfl) (hN : X.N[k]? = some n := by rfl)
    (hv : Vis X.env.scope n := by first | exact Or.inl rfl | exact Or.inr (Or.inl rfl) | exact Or.inr (Or.inr rfl)) (hd : (n == ("__debug__" : Str)) = false := by decide) (hcd : (n == ("__classdict__" : Str)) = false := by decide)
    (hbase : attributeBase (.Name n p) "reverse" X.env (eval (.Name n p) X.env) = eval (.Name n p) X.env := by rfl) (hline : (apos.endLine == cpos.line) = true := by rfl)
    (hsw : swapsWith (.Call (.Attribute (.Name n p) "reverse" apos) [] [] cpos) none pos.line X.env = pure false := by rfl) :
    ST X (.Expr (.Call (.Attribute (.Name n p) "reverse" apos) [] [] cpos) pos :: rest) Γ E := fun B F H σ D L ed => by
  obtain ⟨vs, ea, fa, ba, ha, pr⟩ := slot_lst L hg
  refine WP.cons (ps_expr (pe_bm0 PySem.F.plainAttrs_list PySem.F.slot_list_reverse PySem.F.type_list_reverse mt_reverse (pe_var hN hv hd hcd) hbase hline) hsw) ?_
  refine ⟨_, ea, .inl ⟨rfl, _, .inl (.inl ha)⟩, ad, vs, rfl, rfl, ha, ?_⟩
  exact hr B F _ σ D (L.updL hg (prev pr)) ed
/-- e.clear(), e a new list -/
theorem st_clearN {o : Expr} {xs : List α} {apos cpos : Pos} (he : EN X Γ o xs) (hr : ST X rest Γ E) (hbase : attributeBase o "clear" X.env (eval o X.env) = eval o X.env := by rfl) (hline : (apos.endLine == cpos.line) = true := by rfl)
    (hsw : swapsWith (.Call (.Attribute o "clear" apos) [] [] cpos) none pos.line X.env = pure false := by rfl) :
    ST X (.Expr (.Call (.Attribute o "clear" apos) [] [] cpos) pos :: rest) Γ E := fun B F H σ D L ed =>
  WP.cons (ps_expr (pe_bm0 PySem.F.plainAttrs_list PySem.F.slot_list_clear PySem.F.type_list_clear mt_clear peW hbase hline) hsw) (he B F H σ _ L fun ad vs F1 H1 e1 h0 f1 h1 pr => by
    refine ⟨.inl ⟨rfl, _, .inl (.inl h1)⟩, ad, vs, rfl, rfl, h1, ?_⟩
    have e2 : Ext F H F1 (upd H1 ad (.lst [])) := ⟨e1.ff, same_upd e1.fh f1, fun b u _ q => by rw [upd_ne (ne_of_none q h0)]; exact e1.hs _ _ q, fun b _ q1 q2 => e1.nw b q1 q2, fun _ z => z.elim⟩
    exact hr B F1 _ σ D (L.step e2) (ed.weak e1.ff))
/-- xs[lo:hi], xs an own list -/
theorem en_sliceLO (k : Nat) {n : Str} {ad : Addr} {xs : List α} {lo hi : Option Expr} {o1 o2 : Option Int} {q1 : Pos} (hl : EO X Γ lo o1) (hh : EO X Γ hi o2) (hg : Γ[k]? = some (.lst i ad xs) := by rfl) (hN : X.N[k]? = some n := by rfl)
    (hv : Vis X.env.scope n := by first | exact Or.inl rfl | exact Or.inr (Or.inl rfl) | exact Or.inr (Or.inr rfl)) (hd : (n == ("__debug__" : Str)) = false := by decide) (hcd : (n == ("__classdict__" : Str)) = false := by decide) :
    EN X Γ (.Subscript (.Name n q1) (.Slice lo hi none p2) pos) (cutL xs o1 o2) := fun B F H σ Q L q => by
  obtain ⟨vs0, ea, _⟩ := slot_lst L hg
  refine WE.of (pe_slice sl_list (pe_var hN hv hd hcd) (poW (Γ := Γ)) (poW (Γ := Γ))) ⟨_, ea, eo_run hl L fun F2 H2 e2 => eo_run hh (L.step e2) fun F3 H3 e3 => ?_⟩
  obtain ⟨vs, _, _, _, h1, pr⟩ := slot_lst (L.step (e2.trans e3)) hg
  have e23 := e2.trans e3
  have s3 := (L.step e23).same
  refine ⟨ad, vs, rfl, .inl (.inl h1), fun p hp => ?_⟩
  refine q p _ F3 _ (e23.trans (Ext.apart s3 hp)) (e23.hs.free hp) (s3.free hp) upd_same ?_
  unfold cutV cutL
  rw [Paired.length pr]
  exact ptake _ (pdrop _ pr)
theorem pints {K : PySem.W.Frag} {F : Hp} : ∀ ys : List Int, Paired (fun u x => repInt.rp K F u x) (ys.map V.int) ys
  | [] => .nil
  | y :: ys => .cons rfl (pints ys)
/-- script[lo:hi] -/
theorem en_sliceScr {xs : Scr} {lo hi : Option Expr} {o1 o2 : Option Int} (ha : EV X Γ a xs) (hl : EO X Γ lo o1) (hh : EO X Γ hi o2) : EN X Γ (.Subscript a (.Slice lo hi none p2) pos) (cutL xs.l o1 o2) := fun B F H σ Q L q =>
  WE.of (pe_slice sl_list peW (poW (Γ := Γ)) (poW (Γ := Γ))) (ha B F H σ _ L fun v F1 H1 e1 r1 => eo_run hl (L.step e1) fun F2 H2 e2 => eo_run hh (L.step (e1.trans e2)) fun F3 H3 e3 => by
    obtain ⟨ad, rfl, h1⟩ := r1
    have e123 := (e1.trans e2).trans e3
    have s3 := (L.step e123).same
    refine ⟨ad, xs.l.map V.int, rfl, s3.seq ((e2.trans e3).ff.seq h1), fun p hp => ?_⟩
    refine q p _ F3 _ (e123.trans (Ext.apart s3 hp)) (e123.hs.free hp) (s3.free hp) upd_same ?_
    have ec : cutV (xs.l.map V.int) o1 o2 = (cutL xs.l o1 o2).map V.int := by
      unfold cutV cutL
      rw [List.length_map, List.map_take, List.map_drop]
    rw [ec]
    exact pints _)
end
end Tw

namespace Tw
open PySem PySem.Spec PyProof.Rows L2 TL
/-! ### an own list handed to a class, and given back -/
theorem ExtM.thenN {M1 M2 : Addr → Prop} {F H F1 H1 F2 H2 : Hp} (a : Ext F H F1 H1) (b : ExtM M1 F1 H1 F2 H2) (n : ∀ x, M1 x → M2 x ∨ H x = none) (s : ∀ x, M2 x → M1 x) : ExtM M2 F H F2 H2 :=
  have th : ∀ x, H x ≠ none → H1 x ≠ none := fun x h z => by
    cases q : H x with
    | none => exact h q
    | some o => rw [a.hs x o q] at z; cases z
  ⟨a.ff.trans b.ff, b.fh, fun x o hm h => b.hh x o (fun m => (n x m).elim hm fun z => by rw [z] at h; cases h) (a.hs x o h), fun x hm h1 h2 => b.nwM x (fun m => (n x m).elim hm h2) (a.nw x h1 h2) (th x h2), fun x m h => b.th x (s x m) (th x h)⟩
theorem apart_snoc {o : Own} : ∀ {A : List Slot}, noOwn A = true → Apart (A ++ [.own o])
  | [], _ => Apart.tail (fun i j o1 o2 _ h1 _ => by cases i <;> cases h1) fun _ _ _ _ ⟨_, m, _⟩ => nomatch m
  | s :: A, h => by
    have h' : (!s.isOwn && noOwn A) = true := h
    rw [Bool.and_eq_true] at h'
    exact Apart.tail (apart_snoc h'.2) fun o' e => by subst e; cases h'.1
theorem set_self {Γ : List Slot} {k : Nat} {s : Slot} (h : Γ[k]? = some s) : Γ.set k s = Γ := by
  refine List.ext_getElem? fun j => ?_
  rw [List.getElem?_set]
  split
  · subst_vars
    have := (List.getElem?_eq_some_iff.mp h).1
    rw [if_pos this]
    exact h.symm
  · rfl
section
variable {P : Program} {w : World} {K : PySem.W.Frag} {mg : Str → Option Value} {base : Heap}
/-- the ends of an __init__ that gives back its own self and the own thing of place m -/
abbrev finI2 (o : Own) (m : Nat) (Q : Ret → Prop) (R : Exn → Prop) : SE := ⟨fun Γ => ∃ o' o2, Γ[0]? = some (.own o') ∧ o'.root = o.root ∧ 0 ≠ m ∧ Γ[m]? = some (.own o2) ∧ Q (.chg repUnit () [o', o2]), Q, fun _ => False, fun _ => False, fun _ => R⟩
theorem HasM.ofI2 {n m qual : Str} {st : Stmt} {N ps : List Str} {k : Nat} {S : Spec} (i2 : Nat) (D : Dm K n m qual st ps) (sc : FnScope N ps (defScope st)) (len : ∀ A Q R, S A Q R → A.length = ps.length)
    (body : ∀ (f : Addr) (cdv : Value) (A : Around) (outer : List Env) (s : Shared) (H : Hp) (E : XK), Room k (A.deeper (envOfC qual (defScope st) s.heap.objs.size f cdv)) → ∀ Γ Q R, S Γ Q R →
      ∃ o, ST (cxOf (L2.CX P w) P w K mg base N qual (defScope st) f cdv A outer s H E) (defBody st) (Γ ++ List.replicate (N.length - ps.length) .no) (finI2 o i2 Q R)) :
    HasM P w K mg base (k + 1) n m ps S := by
  obtain ⟨C0, f, fd, hC0, hM, F, hb⟩ := D.ex
  refine ⟨fun C hC => ⟨f, fd, by obtain rfl := ns_one hC0 hC; exact hM, hb, F.okX sc (fun vs H Q E ⟨F0, A, s, r, ap, h⟩ => ?_) (fun cdv A outer s H vs Q E hr h => ?_)⟩⟩
  · rw [r.len]; exact len _ _ _ h
  · obtain ⟨F0, A0, sm, r, ap, h⟩ := h
    refine ⟨_, psW, ?_⟩
    have hl := len _ _ _ h
    have L0 := lc_start (K := K) sm r ap (N.length - ps.length)
    have L1 : Lc K ⟨F0, H, MA A0⟩ F0 H (L2.start N vs) (A0 ++ List.replicate (N.length - ps.length) .no) := by
      unfold L2.start
      rw [show vs.length = ps.length from r.len.trans hl]
      exact L0
    obtain ⟨o, hbody⟩ := body f cdv A outer s H E hr A0 _ _ h
    refine hbody ⟨F0, H, MA A0⟩ F0 H _ _ L1 ⟨fun F' H' σ' Γ' _ hq L => ?_, fun r v F' H' hq ex ok => hq v F' H' ex ok, fun _ _ _ _ _ z => z.elim, fun _ _ _ _ _ z => z.elim, fun F1 H1 σ' Γ' x u d _ hq L ok => ?_⟩
    · obtain ⟨o', o2, hg, hr', hne, hg2, hq⟩ := hq
      obtain ⟨v, ev, ok', f'⟩ := slot_own L hg
      obtain ⟨v2, ev2, ok2, f2⟩ := slot_own L hg2
      refine hq .non F' H' L.ext ⟨rfl, fun o3 h3 => ?_, List.pairwise_pair.mpr (L.ap 0 i2 o' o2 hne hg hg2)⟩
      rcases List.mem_cons.mp h3 with e | h3
      · rw [e]; exact ⟨by rw [← o'.rt ok']; exact ok', fun b hb => ⟨(f' b hb).2, (f' b hb).1⟩⟩
      · rw [List.mem_singleton.mp h3]; exact ⟨by rw [← o2.rt ok2]; exact ok2, fun b hb => ⟨(f2 b hb).2, (f2 b hb).1⟩⟩
    · exact XW.of (L2.takes_of rfl rfl rfl rfl) (hq u d F1 H1 L.ext (ok.imp fun b h => h.1))
end
section
variable {X : Cx} {Γ : List Slot} {α β γ : Type} {i : Rep α} {j : Rep β} {pos p p2 : Pos} {e a b c : Expr} {es : List Expr} {E : SE} {rest body : List Stmt}
/-- a call whose answer is None, an own thing lent to it -/
theorem ex_lendU (k : Nat) {o : Own} {x : α} (hx : Froz o x) (h : EX X (Γ.set k (.val i x)) e (fun r => r = rv ())) (hk : Γ[k]? = some (.own o) := by rfl) : EX X Γ e (fun r => r = rv ()) := fun B F H σ Q L q => by
  obtain ⟨L', fa⟩ := L.lendO hk hx
  refine h _ _ H σ Q L' fun r v F' H' er ex ok => q r v F H' er (lend_back L.same ex) ?_
  subst er
  exact ok
/-- list(xs), xs an own list -/
theorem en_listLO (k : Nat) {n : Str} {ad : Addr} {xs : List α} (hm : X.mg "list" = none) (hg : Γ[k]? = some (.lst i ad xs) := by rfl) (hN : X.N[k]? = some n := by rfl)
    (hv : Vis X.env.scope n := by first | exact Or.inl rfl | exact Or.inr (Or.inl rfl) | exact Or.inr (Or.inr rfl)) (hd : (n == ("__debug__" : Str)) = false := by decide) (hcd : (n == ("__classdict__" : Str)) = false := by decide) (hgl : Gl X "list" := by rfl)
    (hs : starEach [.Name n p2] X.env = (false, eval (.Name n p2) X.env) :: starEach [] X.env := by exact star_of rfl) (hpl : (backTo pos (starEach [] X.env)).any (·.1) = false := by exact pl_of rfl) :
    EN X Γ (.Call (.Name "list" p) [.Name n p2] [] pos) xs := fun B F H σ Q L q => by
  obtain ⟨vs, ea, fa, ba, ha, pr⟩ := slot_lst L hg
  refine WE.of (pe_callTy call_list_of hgl hm (by decide +kernel) (pa_cons (pe_var hN hv hd hcd) pa_nil hs) (by decide) (by decide) hs hpl) ⟨_, ea, ad, vs, rfl, .inl (.inl (.inl ha)), fun q' hq => q q' vs F _ (Ext.apart L.same hq) hq (L.same.free hq) upd_same pr⟩
/-- x = e, e data, the own things of the places as they were told -/
theorem st_setG (k : Nat) {n : Str} {x : α} {Γ1 : List Slot} (he : EG X Γ e (fun r Γ' => r = .val i x ∧ Γ' = Γ1) (fun _ _ => False)) (hr : ST X rest (Γ1.set k (.val i x)) E) (hN : X.N.Nodup) (hi : X.N[k]? = some n := by rfl) (hx : L2.Loc X.env.scope n := by first | exact Or.inl rfl | exact Or.inr rfl)
    (hs : swapsWith e (some (.Name n p)) pos.line X.env = pure false := by rfl) (hf : X.fn n = true ∨ X.env.scope.names.lookup n = some .local := by first | exact .inl rfl | exact .inr rfl) : ST X (.Assign [.Name n p] e pos :: rest) Γ E := fun B F H σ D L ed =>
  WP.cons (ps_set hN hi hx peW hs hf) (he B F H σ _ L (fun r v F1 H1 Γ2 hP s1 L1 ok => by
    obtain ⟨rfl, rfl⟩ := hP
    exact hr B F1 H1 _ D (L1.putV k ok) (ed.weak s1)) fun x u d F1 H1 Γ1 z _ _ _ => z.elim)
/-- C(.., xs), xs an own thing that is handed in last and given back as it was -/
theorem eg_makeB (k : Nat) {α : Type} [t : Inst α] {x : α} {n : Str} {kk : Nat} {ps : List Str} {S : Spec} {A pre : List Slot} {o : Own} (hc : OC X.K X.mg n) (G : HasM X.prog X.w X.K X.mg X.base kk n "__init__" ps S) (hr : Room (kk + 1) X.A) (hx : t.cls x = n) (ha : EAb X Γ (e :: es) A) (hA : A = pre ++ [.own o]) (hpre : noOwn pre = true) (hk : Γ[k]? = some (.own o))
    (hS : ∀ C, PySem.W.nsIn X.K mainGlobals n = some (some (.ref C)) → ∀ ad dx, ∀ P' R', P' (.chg repUnit () [ownI C ad dx (t.flds x), o]) → S (.own (ownI C ad dx []) :: A) P' R') (hg : Gl X n := by rfl) (hd : (n == ("__debug__" : Str)) = false := by decide)
    (he : starEach (e :: es) X.env = (false, eval e X.env) :: starEach es X.env := by exact star_of rfl) (hpl : (backTo pos (starEach es X.env)).any (·.1) = false := by exact pl_of rfl) : EG X Γ (.Call (.Name n p) (e :: es) [] pos) (fun r Γ' => r = .val repInst x ∧ Γ' = Γ) (fun _ _ => False) := fun B F H σ Q L q z => by
  obtain ⟨C, kC, gC⟩ := hc
  obtain ⟨f, fd, hM, hb, GF⟩ := G.ex C kC.ns
  have M : Mk X.K C f := ⟨kC.mks, hM.at_, hM.fn, kC.kp⟩
  have own1 : ∀ o', Slot.own o' ∈ A → o' = o := fun o' m => by
    rw [hA] at m
    rcases List.mem_append.mp m with m | m
    · exact absurd m (noOwn_no hpre o')
    · cases List.mem_singleton.mp m; rfl
  have ownm : Slot.own o ∈ A := by rw [hA]; simp
  refine ⟨fun pins s I => ?_⟩
  refine wpAny_Call_Name_kw (ld_glob I hg gC ?_ hd)
  refine PySem.W.callWith_K (h₀ := X.base) I.ok.mod.kin kC.kp (thn ((ha B F H σ (fun vs H1 => ∃ F1, Ext F H F1 H1 ∧ VsOkO X.K F1 H1 vs A) L (fun vs F1 H1 e1 r1 => ⟨F1, e1, r1⟩)).go pos pins s I) fun us s1 ⟨vs, H1, I1, rvs, F1, e1, r1⟩ => ⟨I1.kIn, ?_⟩) he hpl
  refine run_makeS (EE := fun cls d H => XW X cls d σ H) M GF hr hb (passAt takesW σ) I1 rvs fun ad dx had hdx hne => ?_
  have L1 := L.step e1
  have s1' := L1.same
  have ea : Ext F1 H1 F1 (upd (upd H1 dx (.own ad)) ad (.ins C dx [])) := by
    have x1 := Ext.apart (o := .own ad) s1' hdx
    exact x1.trans (Ext.apart (o := .ins C dx []) x1.fh (by rw [upd_ne (Ne.symm hne)]; exact had))
  have free2 : ∀ b ∈ [ad, dx], H1 b = none := fun b hb => by
    have hb' : b = ad ∨ b = dx := by simpa using hb
    rcases hb' with rfl | rfl
    · exact had
    · exact hdx
  have ma : ∀ b, MA A b → b ∈ o.fp := fun b ⟨o', m, hb⟩ => own1 o' m ▸ hb
  have apA : Apart A := by rw [hA]; exact apart_snoc hpre
  have apI : Apart (.own (ownI C ad dx []) :: A) := Apart.tail apA fun o' eo b hb m => by
    cases eo
    exact L1.ne_own (free2 b hb) hk (ma b m)
  have maN : ∀ b, MA (.own (ownI C ad dx []) :: A) b → MA A b ∨ H1 b = none := fun b m => by
    rcases MA_cons m with ⟨o', eo, hb⟩ | m
    · cases eo; exact .inr (free2 b hb)
    · exact .inl m
  refine ⟨F1, .own (ownI C ad dx []) :: A, ea.fh, ⟨⟨rfl, Ne.symm hne, ?_, [], upd_same, trivial⟩, fun b hb => s1'.free (free2 b hb), r1.step ea⟩, apI, hS C kC.ns ad dx _ _ fun v F2 H2 x2 ok => ?_⟩
  · rw [upd_ne hne, upd_same]
  · obtain ⟨rv0, fo, _⟩ := ok
    obtain ⟨okI, fI⟩ := fo _ (List.mem_cons_self ..)
    obtain ⟨okO, fO⟩ := fo o (List.mem_cons_of_mem _ (List.mem_singleton.mpr rfl))
    have x3 : ExtM (MA A) F1 H1 F2 H2 := ExtM.thenN ea x2 maN fun b ⟨o', m, hb⟩ => ⟨o', List.mem_cons_of_mem _ m, hb⟩
    have L3 := L1.back x3 hk ma okO (fun b hb => ⟨.inr ⟨o, ownm, hb⟩, (fO b hb).2⟩) rfl
    rw [set_self hk] at L3
    have f0 : ∀ b ∈ [ad, dx], B.nw b ∧ Free Γ b ∧ F2 b = none := fun b hb => ⟨L1.nw (free2 b hb), fun q' o2 hq => L1.ne_own (free2 b hb) hq, (fI b hb).2⟩
    obtain ⟨L4, s4⟩ := L3.freezeN f0
    exact ⟨rv0, q _ (.ref ad) _ H2 Γ ⟨rfl, rfl⟩ ((e1.ff.trans x3.ff).trans s4) L4 (frozI (K0 := X.K) (fun K' e' => by rw [e', hx]; exact kC.ns) L3.same okI fun b hb => (fI b hb).2)⟩
end
end Tw

namespace Tw
open PySem PySem.Spec PyProof.Rows L2 TL
theorem cnt_app (xs : List Str) : ∀ i, i < xs.length → SetS.cnt xs (i + 1) = if xs.getD i Str.empty ∈ xs.take i then SetS.cnt xs i else SetS.cnt xs i + 1 := fun i hi => by
  have hm : (xs.take i).any (· == xs.getD i Str.empty) = true ↔ xs.getD i Str.empty ∈ xs.take i := by
    rw [List.any_eq_true]
    exact ⟨fun ⟨z, h1, h2⟩ => (beq_iff_eq.mp h2) ▸ h1, fun h => ⟨_, h, by simp⟩⟩
  show (if (xs.take i).any (· == xs.getD i Str.empty) = true then _ else _) = _
  by_cases h : xs.getD i Str.empty ∈ xs.take i
  · rw [if_pos h, if_pos (hm.mpr h)]
  · rw [if_neg h, if_neg fun z => h (hm.mp z)]
/-- how many unlike ones the first i have -/
def unl (x : Tx) : Nat → Nat
  | 0 => 0
  | i + 1 => if x.getD i 0 ∈ x.take i then unl x i else unl x i + 1
theorem cnt_unl (x : Tx) : ∀ i, i ≤ x.length → SetS.cnt (PyProof.Rows.signs (sx x)) i = unl x i
  | 0, _ => rfl
  | i + 1, h => by
    have l : (PyProof.Rows.signs (sx x)).length = x.length := by rw [signs_sx, List.length_map]
    have inj : ∀ a b : Nat, (⟨#[a]⟩ : Str) = ⟨#[b]⟩ → a = b := fun a b e => by simpa using e
    rw [cnt_app _ i (by omega), cnt_unl x i (by omega)]
    have e : (PyProof.Rows.signs (sx x)).getD i Str.empty = ⟨#[x.getD i 0]⟩ := by
      rw [signs_sx, List.getD_eq_getElem?_getD, List.getElem?_map, List.getD_eq_getElem?_getD, List.getElem?_eq_getElem (by omega)]
      rfl
    have e2 : ((PyProof.Rows.signs (sx x)).getD i Str.empty ∈ (PyProof.Rows.signs (sx x)).take i) ↔ x.getD i 0 ∈ x.take i := by
      rw [e, signs_sx, ← List.map_take, List.mem_map]
      exact ⟨fun ⟨z, h1, h2⟩ => (inj _ _ h2) ▸ h1, fun h => ⟨_, h, rfl⟩⟩
    show _ = if x.getD i 0 ∈ x.take i then _ else _
    by_cases q : x.getD i 0 ∈ x.take i
    · rw [if_pos q, if_pos (e2.mpr q)]
    · rw [if_neg q, if_neg fun z => q (e2.mp z)]
theorem unl_left {x y : Tx} (nd : x.Nodup) : ∀ i, i ≤ x.length → unl (x ++ y) i = i
  | 0, _ => rfl
  | i + 1, h => by
    show (if (x ++ y).getD i 0 ∈ (x ++ y).take i then _ else _) = _
    have e : (x ++ y).getD i 0 = x[i] := by
      rw [List.getD_eq_getElem?_getD, List.getElem?_append_left (by omega), List.getElem?_eq_getElem (by omega)]; rfl
    rw [unl_left nd i (by omega), if_neg]
    rw [e, List.take_append_of_le_length (by omega)]
    intro hm
    obtain ⟨j, hj, q⟩ := List.mem_take_iff_getElem.mp hm
    have := (List.getElem_inj nd).mp q
    omega
theorem unl_right {x y : Tx} (nd : x.Nodup) (nd2 : y.Nodup) : ∀ i, i ≤ y.length → unl (x ++ y) (x.length + i) = x.length + ((y.take i).filter fun c => decide (c ∉ x)).length
  | 0, _ => by rw [Nat.add_zero, unl_left nd _ (Nat.le_refl _)]; rfl
  | i + 1, h => by
    have hi : i < y.length := by omega
    show (if (x ++ y).getD (x.length + i) 0 ∈ (x ++ y).take (x.length + i) then unl (x ++ y) (x.length + i) else unl (x ++ y) (x.length + i) + 1) = _
    have e : (x ++ y).getD (x.length + i) 0 = y[i] := by
      rw [List.getD_eq_getElem?_getD, List.getElem?_append_right (by omega), Nat.add_sub_cancel_left, List.getElem?_eq_getElem (by omega)]; rfl
    have e2 : (x ++ y).take (x.length + i) = x ++ y.take i := by
      rw [List.take_append, List.take_of_length_le (by omega), Nat.add_sub_cancel_left]
    have hnot : y[i] ∉ y.take i := fun hm => by
      obtain ⟨j, hj, q⟩ := List.mem_take_iff_getElem.mp hm
      have := (List.getElem_inj nd2).mp q
      omega
    rw [unl_right nd nd2 i (by omega), e, e2, List.take_add_one, List.getElem?_eq_getElem hi, List.filter_append, List.length_append]
    by_cases q : y[i] ∈ x
    · rw [if_pos (List.mem_append_left _ q)]
      simp [q]
    · rw [if_neg (fun z => (List.mem_append.mp z).elim q hnot)]
      simp [q]
      omega
theorem unlike_app {x y : Tx} (nd : x.Nodup) (nd2 : y.Nodup) : unlike (x ++ y) = (x ++ y.filter fun c => decide (c ∉ x)).length := by
  unfold unlike
  have l : (PyProof.Rows.signs (sx (x ++ y))).length = (x ++ y).length := by rw [signs_sx, List.length_map]
  rw [l, cnt_unl _ _ (Nat.le_refl _), List.length_append, unl_right nd nd2 _ (Nat.le_refl _), List.take_length, List.length_append]
section
variable {X : Cx} {Γ : List Slot} {α β γ : Type} {i : Rep α} {j : Rep β} {pos p p2 : Pos} {e a b c : Expr} {es : List Expr} {E : SE} {rest body : List Stmt}
/-- int(flag) -/
theorem ev_intB {x : Bool} (hm : X.mg "int" = none) (h : EV X Γ e x) (hg : Gl X "int" := by rfl) (hs : starEach [e] X.env = (false, eval e X.env) :: starEach [] X.env := by exact star_of rfl) (hpl : (backTo pos (starEach [] X.env)).any (·.1) = false := by exact pl_of rfl) :
    EV X Γ (.Call (.Name "int" p) [e] [] pos) (if x then (1 : Int) else 0) :=
  ev_callT1 call_int1 hm (by decide +kernel) h (fun F H v Q s r q => by
    obtain rfl : v = .bl x := r
    exact .inr ⟨x, rfl, q _ F H (Ext.refl s) rfl⟩) hg (by decide) (by decide) hs hpl
/-- a text in a tuple of texts -/
theorem o_inTS {x : Tx} {ys : Tup Tx} : OB X (compareOp .In) x ys (decide (x ∈ ys.l)) := fun F H v u Q s r1 r2 q pins s' σ va vb I rv1 rv2 => by
  obtain rfl : v = .str (sx x) := r1
  obtain ⟨ad, vs, rfl, h1, pr⟩ := r2
  obtain rfl := pd_strs pr
  refine op_in_seq pins s' σ H _ _ va vb Q I rv1 rv2 ⟨ad, _, rfl, .inr (st_of s h1), rfl, ?_, ?_⟩
  · rw [List.all_map]; exact List.all_eq_true.mpr fun _ _ => rfl
  · rw [if_neg (by decide), inV_strs]
    exact q _ F H (Ext.refl s) rfl
theorem o_notInTS {x : Tx} {ys : Tup Tx} : OB X (compareOp .NotIn) x ys (!decide (x ∈ ys.l)) := fun F H v u Q s r1 r2 q pins s' σ va vb I rv1 rv2 => by
  obtain rfl : v = .str (sx x) := r1
  obtain ⟨ad, vs, rfl, h1, pr⟩ := r2
  obtain rfl := pd_strs pr
  refine op_notIn_seq pins s' σ H _ _ va vb Q I rv1 rv2 ⟨ad, _, rfl, .inr (st_of s h1), rfl, ?_, ?_⟩
  · rw [List.all_map]; exact List.all_eq_true.mpr fun _ _ => rfl
  · rw [if_pos rfl, inV_strs]
    exact q _ F H (Ext.refl s) rfl
end
end Tw

namespace Law
open PySem PySem.Spec PyProof.Rows L2 TL Tw
def topS (i : Nat) : Stmt := PySem.Challenge.pw_quiltlaw_k45_joining_refused.main.body.getD i (.Pass ⟨0, 0, 0, 0⟩)
def clsS (i j : Nat) : Stmt := clsBody (topS i) j
abbrev s_wall : Stmt := topS 0
abbrev N_wall : List Str := ["k"]
theorem sc_wall : FnScope N_wall ["k"] (defScope s_wall) := ⟨rfl, rfl, rfl, by decide +kernel, rfl, by decide +kernel, by decide +kernel⟩
abbrev bk_wall := @L2.blkOk_by N_wall (defScope s_wall)
abbrev s_beside : Stmt := topS 9
abbrev N_beside : List Str := ["one", "other", "left", "right"]
theorem sc_beside : FnScope N_beside ["one", "other"] (defScope s_beside) := ⟨rfl, rfl, rfl, by decide +kernel, rfl, by decide +kernel, by decide +kernel⟩
abbrev bk_beside := @L2.blkOk_by N_beside (defScope s_beside)
abbrev s_above : Stmt := topS 10
abbrev N_above : List Str := ["one", "other"]
theorem sc_above : FnScope N_above ["one", "other"] (defScope s_above) := ⟨rfl, rfl, rfl, by decide +kernel, rfl, by decide +kernel, by decide +kernel⟩
abbrev bk_above := @L2.blkOk_by N_above (defScope s_above)
abbrev s_quarter : Stmt := topS 13
abbrev N_quarter : List Str := ["picture", "rows", "column", "row"]
theorem sc_quarter : FnScope N_quarter ["picture"] (defScope s_quarter) := ⟨rfl, rfl, rfl, by decide +kernel, rfl, by decide +kernel, by decide +kernel⟩
abbrev bk_quarter := @L2.blkOk_by N_quarter (defScope s_quarter)
abbrev s_mirrored : Stmt := topS 14
abbrev N_mirrored : List Str := ["picture", "row"]
theorem sc_mirrored : FnScope N_mirrored ["picture"] (defScope s_mirrored) := ⟨rfl, rfl, rfl, by decide +kernel, rfl, by decide +kernel, by decide +kernel⟩
abbrev bk_mirrored := @L2.blkOk_by N_mirrored (defScope s_mirrored)
abbrev s_turned : Stmt := topS 15
abbrev N_turned : List Str := ["picture", "t", "seen", "turn"]
theorem sc_turned : FnScope N_turned ["picture", "t"] (defScope s_turned) := ⟨rfl, rfl, rfl, by decide +kernel, rfl, by decide +kernel, by decide +kernel⟩
abbrev bk_turned := @L2.blkOk_by N_turned (defScope s_turned)
abbrev s_after : Stmt := topS 16
abbrev N_after : List Str := ["t", "u", "quarters"]
theorem sc_after : FnScope N_after ["t", "u"] (defScope s_after) := ⟨rfl, rfl, rfl, by decide +kernel, rfl, by decide +kernel, by decide +kernel⟩
abbrev bk_after := @L2.blkOk_by N_after (defScope s_after)
abbrev s_back : Stmt := topS 17
abbrev N_back : List Str := ["t"]
theorem sc_back : FnScope N_back ["t"] (defScope s_back) := ⟨rfl, rfl, rfl, by decide +kernel, rfl, by decide +kernel, by decide +kernel⟩
abbrev bk_back := @L2.blkOk_by N_back (defScope s_back)
abbrev s_is_name : Stmt := topS 23
abbrev N_is_name : List Str := ["text", "sign"]
theorem sc_is_name : FnScope N_is_name ["text"] (defScope s_is_name) := ⟨rfl, rfl, rfl, by decide +kernel, rfl, by decide +kernel, by decide +kernel⟩
abbrev bk_is_name := @L2.blkOk_by N_is_name (defScope s_is_name)
abbrev s_asked_name : Stmt := topS 24
abbrev N_asked_name : List Str := ["text"]
theorem sc_asked_name : FnScope N_asked_name ["text"] (defScope s_asked_name) := ⟨rfl, rfl, rfl, by decide +kernel, rfl, by decide +kernel, by decide +kernel⟩
abbrev bk_asked_name := @L2.blkOk_by N_asked_name (defScope s_asked_name)
abbrev s_turned_pair : Stmt := topS 27
abbrev N_turned_pair : List Str := ["name", "cost", "names", "t", "side_by_side", "one", "other", "quarter"]
theorem sc_turned_pair : FnScope N_turned_pair ["name", "cost", "names", "t"] (defScope s_turned_pair) := ⟨rfl, rfl, rfl, by decide +kernel, rfl, by decide +kernel, by decide +kernel⟩
abbrev bk_turned_pair := @L2.blkOk_by N_turned_pair (defScope s_turned_pair)
abbrev s_are_signs : Stmt := topS 35
abbrev N_are_signs : List Str := ["text", "sign"]
theorem sc_are_signs : FnScope N_are_signs ["text"] (defScope s_are_signs) := ⟨rfl, rfl, rfl, by decide +kernel, rfl, by decide +kernel, by decide +kernel⟩
abbrev bk_are_signs := @L2.blkOk_by N_are_signs (defScope s_are_signs)
abbrev s_names_met : Stmt := topS 36
abbrev N_names_met : List Str := ["start", "rules", "met", "rule", "name"]
theorem sc_names_met : FnScope N_names_met ["start", "rules"] (defScope s_names_met) := ⟨rfl, rfl, rfl, by decide +kernel, rfl, by decide +kernel, by decide +kernel⟩
abbrev bk_names_met := @L2.blkOk_by N_names_met (defScope s_names_met)
abbrev s_asked_rules : Stmt := topS 37
abbrev N_asked_rules : List Str := ["signs", "rules", "k", "rule"]
theorem sc_asked_rules : FnScope N_asked_rules ["signs", "rules"] (defScope s_asked_rules) := ⟨rfl, rfl, rfl, by decide +kernel, rfl, by decide +kernel, by decide +kernel⟩
abbrev bk_asked_rules := @L2.blkOk_by N_asked_rules (defScope s_asked_rules)
abbrev s_new_names : Stmt := topS 43
abbrev N_new_names : List Str := ["grammar", "letter", "names", "k", "name"]
theorem sc_new_names : FnScope N_new_names ["grammar", "letter"] (defScope s_new_names) := ⟨rfl, rfl, rfl, by decide +kernel, rfl, by decide +kernel, by decide +kernel⟩
abbrev bk_new_names := @L2.blkOk_by N_new_names (defScope s_new_names)
abbrev s_joint_rules : Stmt := topS 44
abbrev N_joint_rules : List Str := ["one", "other", "way"]
theorem sc_joint_rules : FnScope N_joint_rules ["one", "other", "way"] (defScope s_joint_rules) := ⟨rfl, rfl, rfl, by decide +kernel, rfl, by decide +kernel, by decide +kernel⟩
abbrev bk_joint_rules := @L2.blkOk_by N_joint_rules (defScope s_joint_rules)
abbrev s_joined : Stmt := topS 45
abbrev N_joined : List Str := ["one", "other", "way", "firsts", "seconds", "rules", "signs", "many", "rule", "sign"]
theorem sc_joined : FnScope N_joined ["one", "other", "way"] (defScope s_joined) := ⟨rfl, rfl, rfl, by decide +kernel, rfl, by decide +kernel, by decide +kernel⟩
abbrev bk_joined := @L2.blkOk_by N_joined (defScope s_joined)
abbrev s_law_mix : Stmt := topS 47
abbrev N_law_mix : List Str := ["_law_cell_here", "_law_k", "_law_mixed"]
theorem sc_law_mix : FnScope N_law_mix ["_law_cell_here", "_law_k"] (defScope s_law_mix) := ⟨rfl, rfl, rfl, by decide +kernel, rfl, by decide +kernel, by decide +kernel⟩
abbrev bk_law_mix := @L2.blkOk_by N_law_mix (defScope s_law_mix)
abbrev s_law_cell : Stmt := topS 48
abbrev N_law_cell : List Str := ["_law_script", "_law_k"]
theorem sc_law_cell : FnScope N_law_cell ["_law_script", "_law_k"] (defScope s_law_cell) := ⟨rfl, rfl, rfl, by decide +kernel, rfl, by decide +kernel, by decide +kernel⟩
abbrev bk_law_cell := @L2.blkOk_by N_law_cell (defScope s_law_cell)
abbrev s_law_pool : Stmt := topS 49
abbrev N_law_pool : List Str := ["_law_cell_here", "_law_many", "_law_letters", "_law_size", "_law_base", "_law_at", "_law_step", "_law_k"]
theorem sc_law_pool : FnScope N_law_pool ["_law_cell_here", "_law_many"] (defScope s_law_pool) := ⟨rfl, rfl, rfl, by decide +kernel, rfl, by decide +kernel, by decide +kernel⟩
abbrev bk_law_pool := @L2.blkOk_by N_law_pool (defScope s_law_pool)
abbrev s_law_signs : Stmt := topS 50
abbrev N_law_signs : List Str := ["_law_cell_here", "_law_letters", "_law_step", "_law_k"]
theorem sc_law_signs : FnScope N_law_signs ["_law_cell_here"] (defScope s_law_signs) := ⟨rfl, rfl, rfl, by decide +kernel, rfl, by decide +kernel, by decide +kernel⟩
abbrev bk_law_signs := @L2.blkOk_by N_law_signs (defScope s_law_signs)
abbrev s_law_rows : Stmt := topS 51
abbrev N_law_rows : List Str := ["_law_cells", "_law_names", "_law_signs_here", "_law_rows_here", "_law_k", "_law_cell_here", "_law_name", "_law_one_here", "_law_other", "_law_cost"]
theorem sc_law_rows : FnScope N_law_rows ["_law_cells", "_law_names", "_law_signs_here"] (defScope s_law_rows) := ⟨rfl, rfl, rfl, by decide +kernel, rfl, by decide +kernel, by decide +kernel⟩
abbrev bk_law_rows := @L2.blkOk_by N_law_rows (defScope s_law_rows)
abbrev s_law_rule : Stmt := topS 52
abbrev N_law_rule : List Str := ["_law_row"]
theorem sc_law_rule : FnScope N_law_rule ["_law_row"] (defScope s_law_rule) := ⟨rfl, rfl, rfl, by decide +kernel, rfl, by decide +kernel, by decide +kernel⟩
abbrev bk_law_rule := @L2.blkOk_by N_law_rule (defScope s_law_rule)
abbrev s_law_parts : Stmt := topS 53
abbrev N_law_parts : List Str := ["_law_row"]
theorem sc_law_parts : FnScope N_law_parts ["_law_row"] (defScope s_law_parts) := ⟨rfl, rfl, rfl, by decide +kernel, rfl, by decide +kernel, by decide +kernel⟩
abbrev bk_law_parts := @L2.blkOk_by N_law_parts (defScope s_law_parts)
abbrev s_law_row_text : Stmt := topS 54
abbrev N_law_row_text : List Str := ["_law_row", "_law_begun"]
theorem sc_law_row_text : FnScope N_law_row_text ["_law_row"] (defScope s_law_row_text) := ⟨rfl, rfl, rfl, by decide +kernel, rfl, by decide +kernel, by decide +kernel⟩
abbrev bk_law_row_text := @L2.blkOk_by N_law_row_text (defScope s_law_row_text)
abbrev s_law_grammar_text : Stmt := topS 55
abbrev N_law_grammar_text : List Str := ["_law_signs_here", "_law_start", "_law_rows_here", "_law_row"]
theorem sc_law_grammar_text : FnScope N_law_grammar_text ["_law_signs_here", "_law_start", "_law_rows_here"] (defScope s_law_grammar_text) := ⟨rfl, rfl, rfl, by decide +kernel, rfl, by decide +kernel, by decide +kernel⟩
abbrev bk_law_grammar_text := @L2.blkOk_by N_law_grammar_text (defScope s_law_grammar_text)
abbrev s_law_met : Stmt := topS 56
abbrev N_law_met : List Str := ["_law_start", "_law_rows_here", "_law_met_here", "_law_row", "_law_name"]
theorem sc_law_met : FnScope N_law_met ["_law_start", "_law_rows_here"] (defScope s_law_met) := ⟨rfl, rfl, rfl, by decide +kernel, rfl, by decide +kernel, by decide +kernel⟩
abbrev bk_law_met := @L2.blkOk_by N_law_met (defScope s_law_met)
abbrev s_law_one : Stmt := topS 57
abbrev N_law_one : List Str := ["_law_script", "_law_begin", "_law_cells", "_law_many", "_law_names", "_law_signs_here", "_law_rows_here"]
theorem sc_law_one : FnScope N_law_one ["_law_script", "_law_begin", "_law_cells"] (defScope s_law_one) := ⟨rfl, rfl, rfl, by decide +kernel, rfl, by decide +kernel, by decide +kernel⟩
abbrev bk_law_one := @L2.blkOk_by N_law_one (defScope s_law_one)
abbrev s_law_way : Stmt := topS 58
abbrev N_law_way : List Str := ["_law_cell_here", "_law_some"]
theorem sc_law_way : FnScope N_law_way ["_law_cell_here"] (defScope s_law_way) := ⟨rfl, rfl, rfl, by decide +kernel, rfl, by decide +kernel, by decide +kernel⟩
abbrev bk_law_way := @L2.blkOk_by N_law_way (defScope s_law_way)
abbrev s_law_asked : Stmt := topS 59
abbrev N_law_asked : List Str := ["_law_one_here", "_law_other", "_law_way_here", "_law_refusal", "_law_found", "e", "_law_kinds"]
theorem sc_law_asked : FnScope N_law_asked ["_law_one_here", "_law_other", "_law_way_here"] (defScope s_law_asked) := ⟨rfl, rfl, rfl, by decide +kernel, rfl, by decide +kernel, by decide +kernel⟩
abbrev bk_law_asked := @L2.blkOk_by N_law_asked (defScope s_law_asked)
abbrev s_law : Stmt := topS 60
abbrev N_law : List Str := ["_law_script", "_law_one_here", "_law_other", "_law_way_here", "_law_first", "_law_second", "_law_signs_here", "_law_rules", "_law_names", "_law_due", "_law_row"]
theorem sc_law : FnScope N_law ["_law_script"] (defScope s_law) := ⟨rfl, rfl, rfl, by decide +kernel, rfl, by decide +kernel, by decide +kernel⟩
abbrev bk_law := @L2.blkOk_by N_law (defScope s_law)
abbrev s_Rule_init : Stmt := clsS 25 0
abbrev N_Rule_init : List Str := ["self", "name", "cost"]
theorem sc_Rule_init : FnScope N_Rule_init ["self", "name", "cost"] (defScope s_Rule_init) := ⟨rfl, rfl, rfl, by decide +kernel, rfl, by decide +kernel, by decide +kernel⟩
abbrev bk_Rule_init := @L2.blkOk_by N_Rule_init (defScope s_Rule_init)
abbrev s_Rule_parts : Stmt := clsS 25 1
abbrev N_Rule_parts : List Str := ["self"]
theorem sc_Rule_parts : FnScope N_Rule_parts ["self"] (defScope s_Rule_parts) := ⟨rfl, rfl, rfl, by decide +kernel, rfl, by decide +kernel, by decide +kernel⟩
abbrev bk_Rule_parts := @L2.blkOk_by N_Rule_parts (defScope s_Rule_parts)
abbrev s_Rule_begun : Stmt := clsS 25 2
abbrev N_Rule_begun : List Str := ["self"]
theorem sc_Rule_begun : FnScope N_Rule_begun ["self"] (defScope s_Rule_begun) := ⟨rfl, rfl, rfl, by decide +kernel, rfl, by decide +kernel, by decide +kernel⟩
abbrev bk_Rule_begun := @L2.blkOk_by N_Rule_begun (defScope s_Rule_begun)
abbrev s_CellRule_init : Stmt := clsS 26 0
abbrev N_CellRule_init : List Str := ["self", "name", "cost", "sign"]
theorem sc_CellRule_init : FnScope N_CellRule_init ["self", "name", "cost", "sign"] (defScope s_CellRule_init) := ⟨rfl, rfl, rfl, by decide +kernel, rfl, by decide +kernel, by decide +kernel⟩
abbrev bk_CellRule_init := @L2.blkOk_by N_CellRule_init (defScope s_CellRule_init)
abbrev s_CellRule_made : Stmt := clsS 26 1
abbrev N_CellRule_made : List Str := ["self", "pictures"]
theorem sc_CellRule_made : FnScope N_CellRule_made ["self", "pictures"] (defScope s_CellRule_made) := ⟨rfl, rfl, rfl, by decide +kernel, rfl, by decide +kernel, by decide +kernel⟩
abbrev bk_CellRule_made := @L2.blkOk_by N_CellRule_made (defScope s_CellRule_made)
abbrev s_CellRule_renamed : Stmt := clsS 26 2
abbrev N_CellRule_renamed : List Str := ["self", "names"]
theorem sc_CellRule_renamed : FnScope N_CellRule_renamed ["self", "names"] (defScope s_CellRule_renamed) := ⟨rfl, rfl, rfl, by decide +kernel, rfl, by decide +kernel, by decide +kernel⟩
abbrev bk_CellRule_renamed := @L2.blkOk_by N_CellRule_renamed (defScope s_CellRule_renamed)
abbrev s_CellRule_turned_whole : Stmt := clsS 26 3
abbrev N_CellRule_turned_whole : List Str := ["self", "t"]
theorem sc_CellRule_turned_whole : FnScope N_CellRule_turned_whole ["self", "t"] (defScope s_CellRule_turned_whole) := ⟨rfl, rfl, rfl, by decide +kernel, rfl, by decide +kernel, by decide +kernel⟩
abbrev bk_CellRule_turned_whole := @L2.blkOk_by N_CellRule_turned_whole (defScope s_CellRule_turned_whole)
abbrev s_CellRule_told : Stmt := clsS 26 4
abbrev N_CellRule_told : List Str := ["self"]
theorem sc_CellRule_told : FnScope N_CellRule_told ["self"] (defScope s_CellRule_told) := ⟨rfl, rfl, rfl, by decide +kernel, rfl, by decide +kernel, by decide +kernel⟩
abbrev bk_CellRule_told := @L2.blkOk_by N_CellRule_told (defScope s_CellRule_told)
abbrev s_BesideRule_init : Stmt := clsS 28 0
abbrev N_BesideRule_init : List Str := ["self", "name", "cost", "one", "other"]
theorem sc_BesideRule_init : FnScope N_BesideRule_init ["self", "name", "cost", "one", "other"] (defScope s_BesideRule_init) := ⟨rfl, rfl, rfl, by decide +kernel, rfl, by decide +kernel, by decide +kernel⟩
abbrev bk_BesideRule_init := @L2.blkOk_by N_BesideRule_init (defScope s_BesideRule_init)
abbrev s_BesideRule_parts : Stmt := clsS 28 1
abbrev N_BesideRule_parts : List Str := ["self"]
theorem sc_BesideRule_parts : FnScope N_BesideRule_parts ["self"] (defScope s_BesideRule_parts) := ⟨rfl, rfl, rfl, by decide +kernel, rfl, by decide +kernel, by decide +kernel⟩
abbrev bk_BesideRule_parts := @L2.blkOk_by N_BesideRule_parts (defScope s_BesideRule_parts)
abbrev s_BesideRule_made : Stmt := clsS 28 2
abbrev N_BesideRule_made : List Str := ["self", "pictures"]
theorem sc_BesideRule_made : FnScope N_BesideRule_made ["self", "pictures"] (defScope s_BesideRule_made) := ⟨rfl, rfl, rfl, by decide +kernel, rfl, by decide +kernel, by decide +kernel⟩
abbrev bk_BesideRule_made := @L2.blkOk_by N_BesideRule_made (defScope s_BesideRule_made)
abbrev s_BesideRule_renamed : Stmt := clsS 28 3
abbrev N_BesideRule_renamed : List Str := ["self", "names", "name"]
theorem sc_BesideRule_renamed : FnScope N_BesideRule_renamed ["self", "names"] (defScope s_BesideRule_renamed) := ⟨rfl, rfl, rfl, by decide +kernel, rfl, by decide +kernel, by decide +kernel⟩
abbrev bk_BesideRule_renamed := @L2.blkOk_by N_BesideRule_renamed (defScope s_BesideRule_renamed)
abbrev s_BesideRule_turned_whole : Stmt := clsS 28 4
abbrev N_BesideRule_turned_whole : List Str := ["self", "t"]
theorem sc_BesideRule_turned_whole : FnScope N_BesideRule_turned_whole ["self", "t"] (defScope s_BesideRule_turned_whole) := ⟨rfl, rfl, rfl, by decide +kernel, rfl, by decide +kernel, by decide +kernel⟩
abbrev bk_BesideRule_turned_whole := @L2.blkOk_by N_BesideRule_turned_whole (defScope s_BesideRule_turned_whole)
abbrev s_BesideRule_told : Stmt := clsS 28 5
abbrev N_BesideRule_told : List Str := ["self"]
theorem sc_BesideRule_told : FnScope N_BesideRule_told ["self"] (defScope s_BesideRule_told) := ⟨rfl, rfl, rfl, by decide +kernel, rfl, by decide +kernel, by decide +kernel⟩
abbrev bk_BesideRule_told := @L2.blkOk_by N_BesideRule_told (defScope s_BesideRule_told)
abbrev s_AboveRule_init : Stmt := clsS 29 0
abbrev N_AboveRule_init : List Str := ["self", "name", "cost", "one", "other"]
theorem sc_AboveRule_init : FnScope N_AboveRule_init ["self", "name", "cost", "one", "other"] (defScope s_AboveRule_init) := ⟨rfl, rfl, rfl, by decide +kernel, rfl, by decide +kernel, by decide +kernel⟩
abbrev bk_AboveRule_init := @L2.blkOk_by N_AboveRule_init (defScope s_AboveRule_init)
abbrev s_AboveRule_parts : Stmt := clsS 29 1
abbrev N_AboveRule_parts : List Str := ["self"]
theorem sc_AboveRule_parts : FnScope N_AboveRule_parts ["self"] (defScope s_AboveRule_parts) := ⟨rfl, rfl, rfl, by decide +kernel, rfl, by decide +kernel, by decide +kernel⟩
abbrev bk_AboveRule_parts := @L2.blkOk_by N_AboveRule_parts (defScope s_AboveRule_parts)
abbrev s_AboveRule_made : Stmt := clsS 29 2
abbrev N_AboveRule_made : List Str := ["self", "pictures"]
theorem sc_AboveRule_made : FnScope N_AboveRule_made ["self", "pictures"] (defScope s_AboveRule_made) := ⟨rfl, rfl, rfl, by decide +kernel, rfl, by decide +kernel, by decide +kernel⟩
abbrev bk_AboveRule_made := @L2.blkOk_by N_AboveRule_made (defScope s_AboveRule_made)
abbrev s_AboveRule_renamed : Stmt := clsS 29 3
abbrev N_AboveRule_renamed : List Str := ["self", "names", "name"]
theorem sc_AboveRule_renamed : FnScope N_AboveRule_renamed ["self", "names"] (defScope s_AboveRule_renamed) := ⟨rfl, rfl, rfl, by decide +kernel, rfl, by decide +kernel, by decide +kernel⟩
abbrev bk_AboveRule_renamed := @L2.blkOk_by N_AboveRule_renamed (defScope s_AboveRule_renamed)
abbrev s_AboveRule_turned_whole : Stmt := clsS 29 4
abbrev N_AboveRule_turned_whole : List Str := ["self", "t"]
theorem sc_AboveRule_turned_whole : FnScope N_AboveRule_turned_whole ["self", "t"] (defScope s_AboveRule_turned_whole) := ⟨rfl, rfl, rfl, by decide +kernel, rfl, by decide +kernel, by decide +kernel⟩
abbrev bk_AboveRule_turned_whole := @L2.blkOk_by N_AboveRule_turned_whole (defScope s_AboveRule_turned_whole)
abbrev s_AboveRule_told : Stmt := clsS 29 5
abbrev N_AboveRule_told : List Str := ["self"]
theorem sc_AboveRule_told : FnScope N_AboveRule_told ["self"] (defScope s_AboveRule_told) := ⟨rfl, rfl, rfl, by decide +kernel, rfl, by decide +kernel, by decide +kernel⟩
abbrev bk_AboveRule_told := @L2.blkOk_by N_AboveRule_told (defScope s_AboveRule_told)
abbrev s_TurnRule_init : Stmt := clsS 30 0
abbrev N_TurnRule_init : List Str := ["self", "name", "cost", "part", "turning"]
theorem sc_TurnRule_init : FnScope N_TurnRule_init ["self", "name", "cost", "part", "turning"] (defScope s_TurnRule_init) := ⟨rfl, rfl, rfl, by decide +kernel, rfl, by decide +kernel, by decide +kernel⟩
abbrev bk_TurnRule_init := @L2.blkOk_by N_TurnRule_init (defScope s_TurnRule_init)
abbrev s_TurnRule_parts : Stmt := clsS 30 1
abbrev N_TurnRule_parts : List Str := ["self"]
theorem sc_TurnRule_parts : FnScope N_TurnRule_parts ["self"] (defScope s_TurnRule_parts) := ⟨rfl, rfl, rfl, by decide +kernel, rfl, by decide +kernel, by decide +kernel⟩
abbrev bk_TurnRule_parts := @L2.blkOk_by N_TurnRule_parts (defScope s_TurnRule_parts)
abbrev s_TurnRule_made : Stmt := clsS 30 2
abbrev N_TurnRule_made : List Str := ["self", "pictures"]
theorem sc_TurnRule_made : FnScope N_TurnRule_made ["self", "pictures"] (defScope s_TurnRule_made) := ⟨rfl, rfl, rfl, by decide +kernel, rfl, by decide +kernel, by decide +kernel⟩
abbrev bk_TurnRule_made := @L2.blkOk_by N_TurnRule_made (defScope s_TurnRule_made)
abbrev s_TurnRule_renamed : Stmt := clsS 30 3
abbrev N_TurnRule_renamed : List Str := ["self", "names", "part"]
theorem sc_TurnRule_renamed : FnScope N_TurnRule_renamed ["self", "names"] (defScope s_TurnRule_renamed) := ⟨rfl, rfl, rfl, by decide +kernel, rfl, by decide +kernel, by decide +kernel⟩
abbrev bk_TurnRule_renamed := @L2.blkOk_by N_TurnRule_renamed (defScope s_TurnRule_renamed)
abbrev s_TurnRule_turned_whole : Stmt := clsS 30 4
abbrev N_TurnRule_turned_whole : List Str := ["self", "t"]
theorem sc_TurnRule_turned_whole : FnScope N_TurnRule_turned_whole ["self", "t"] (defScope s_TurnRule_turned_whole) := ⟨rfl, rfl, rfl, by decide +kernel, rfl, by decide +kernel, by decide +kernel⟩
abbrev bk_TurnRule_turned_whole := @L2.blkOk_by N_TurnRule_turned_whole (defScope s_TurnRule_turned_whole)
abbrev s_TurnRule_told : Stmt := clsS 30 5
abbrev N_TurnRule_told : List Str := ["self"]
theorem sc_TurnRule_told : FnScope N_TurnRule_told ["self"] (defScope s_TurnRule_told) := ⟨rfl, rfl, rfl, by decide +kernel, rfl, by decide +kernel, by decide +kernel⟩
abbrev bk_TurnRule_told := @L2.blkOk_by N_TurnRule_told (defScope s_TurnRule_told)
abbrev s_Grammar_init : Stmt := clsS 38 0
abbrev N_Grammar_init : List Str := ["self", "signs", "start", "rules", "met"]
theorem sc_Grammar_init : FnScope N_Grammar_init ["self", "signs", "start", "rules"] (defScope s_Grammar_init) := ⟨rfl, rfl, rfl, by decide +kernel, rfl, by decide +kernel, by decide +kernel⟩
abbrev bk_Grammar_init := @L2.blkOk_by N_Grammar_init (defScope s_Grammar_init)
abbrev s_Grammar_rules : Stmt := clsS 38 1
abbrev N_Grammar_rules : List Str := ["self"]
theorem sc_Grammar_rules : FnScope N_Grammar_rules ["self"] (defScope s_Grammar_rules) := ⟨rfl, rfl, rfl, by decide +kernel, rfl, by decide +kernel, by decide +kernel⟩
abbrev bk_Grammar_rules := @L2.blkOk_by N_Grammar_rules (defScope s_Grammar_rules)
abbrev s_Grammar_rule : Stmt := clsS 38 2
abbrev N_Grammar_rule : List Str := ["self", "k"]
theorem sc_Grammar_rule : FnScope N_Grammar_rule ["self", "k"] (defScope s_Grammar_rule) := ⟨rfl, rfl, rfl, by decide +kernel, rfl, by decide +kernel, by decide +kernel⟩
abbrev bk_Grammar_rule := @L2.blkOk_by N_Grammar_rule (defScope s_Grammar_rule)
abbrev s_Grammar_many : Stmt := clsS 38 3
abbrev N_Grammar_many : List Str := ["self"]
theorem sc_Grammar_many : FnScope N_Grammar_many ["self"] (defScope s_Grammar_many) := ⟨rfl, rfl, rfl, by decide +kernel, rfl, by decide +kernel, by decide +kernel⟩
abbrev bk_Grammar_many := @L2.blkOk_by N_Grammar_many (defScope s_Grammar_many)
abbrev s_Grammar_names : Stmt := clsS 38 4
abbrev N_Grammar_names : List Str := ["self"]
theorem sc_Grammar_names : FnScope N_Grammar_names ["self"] (defScope s_Grammar_names) := ⟨rfl, rfl, rfl, by decide +kernel, rfl, by decide +kernel, by decide +kernel⟩
abbrev bk_Grammar_names := @L2.blkOk_by N_Grammar_names (defScope s_Grammar_names)
abbrev s_Grammar_numbers_of : Stmt := clsS 38 5
abbrev N_Grammar_numbers_of : List Str := ["self", "name"]
theorem sc_Grammar_numbers_of : FnScope N_Grammar_numbers_of ["self", "name"] (defScope s_Grammar_numbers_of) := ⟨rfl, rfl, rfl, by decide +kernel, rfl, by decide +kernel, by decide +kernel⟩
abbrev bk_Grammar_numbers_of := @L2.blkOk_by N_Grammar_numbers_of (defScope s_Grammar_numbers_of)
abbrev s_Grammar_told : Stmt := clsS 38 6
abbrev N_Grammar_told : List Str := ["self", "rows", "rule"]
theorem sc_Grammar_told : FnScope N_Grammar_told ["self"] (defScope s_Grammar_told) := ⟨rfl, rfl, rfl, by decide +kernel, rfl, by decide +kernel, by decide +kernel⟩
abbrev bk_Grammar_told := @L2.blkOk_by N_Grammar_told (defScope s_Grammar_told)
abbrev s_NoGrammar_init : Stmt := clsS 5 0
abbrev N_NoGrammar_init : List Str := ["self", "why"]
theorem sc_NoGrammar_init : FnScope N_NoGrammar_init ["self", "why"] (defScope s_NoGrammar_init) := ⟨rfl, rfl, rfl, by decide +kernel, rfl, by decide +kernel, by decide +kernel⟩
structure Txt (K : PySem.W.Frag) (mg : Str → Option Value) : Prop where
  b_ValueError : mg "ValueError" = none
  b_all : mg "all" = none
  b_enumerate : mg "enumerate" = none
  b_int : mg "int" = none
  b_isinstance : mg "isinstance" = none
  b_len : mg "len" = none
  b_list : mg "list" = none
  b_range : mg "range" = none
  b_reversed : mg "reversed" = none
  b_set : mg "set" = none
  b_str : mg "str" = none
  b_zip : mg "zip" = none
  c_MOST : ∃ t, mg "MOST" = some (.int 6 t)
  c_MIRROR : ∃ t, mg "MIRROR" = some (.int 4 t)
  c_CAPITALS : ∃ t, mg "CAPITALS" = some (.str (Str.ofString "ABCDEFGHIJKLMNOPQRSTUVWXYZ") t)
  c_SMALL : ∃ t, mg "SMALL" = some (.str (Str.ofString "abcdefghijklmnopqrstuvwxyz") t)
  c_MOST_LETTERS : ∃ t, mg "MOST_LETTERS" = some (.int 4 t)
  c_MOST_COST : ∃ t, mg "MOST_COST" = some (.int 9 t)
  c_MOST_SIGNS : ∃ t, mg "MOST_SIGNS" = some (.int 4 t)
  c_MOST_RULES : ∃ t, mg "MOST_RULES" = some (.int 24 t)
  c_MOST_NAMES : ∃ t, mg "MOST_NAMES" = some (.int 8 t)
  c_JOINT : ∃ t, mg "JOINT" = some (.str (Str.ofString "J") t)
  c_FIRST : ∃ t, mg "FIRST" = some (.str (Str.ofString "F") t)
  c_SECOND : ∃ t, mg "SECOND" = some (.str (Str.ofString "S") t)
  x_QuiltError : XC K mg "QuiltError"
  x_NoFit : XC K mg "NoFit"
  x_NoRule : XC K mg "NoRule"
  x_NoGrammar : XC K mg "NoGrammar"
  x_TooMany : XC K mg "TooMany"
  p_NoRule : XPlain K "NoRule"
  p_NoFit : XPlain K "NoFit"
  i_NoGrammar : Dx K "NoGrammar" "why" "NoGrammar.__init__" s_NoGrammar_init ["self", "why"]
  p_TooMany : XPlain K "TooMany"
  q_QuiltError : ∃ D, XBase K mg "QuiltError" D
  s_NoRule_QuiltError : XSub K "NoRule" "QuiltError" true
  s_NoRule_NoRule : XSub K "NoRule" "NoRule" true
  s_NoRule_TooMany : XSub K "NoRule" "TooMany" false
  s_NoRule_NoGrammar : XSub K "NoRule" "NoGrammar" false
  t_NoRule_ValueError : XSubT K "NoRule" "ValueError" true
  s_NoFit_QuiltError : XSub K "NoFit" "QuiltError" true
  s_NoFit_NoRule : XSub K "NoFit" "NoRule" false
  s_NoFit_TooMany : XSub K "NoFit" "TooMany" false
  s_NoFit_NoGrammar : XSub K "NoFit" "NoGrammar" false
  t_NoFit_ValueError : XSubT K "NoFit" "ValueError" true
  s_NoGrammar_QuiltError : XSub K "NoGrammar" "QuiltError" true
  s_NoGrammar_NoRule : XSub K "NoGrammar" "NoRule" false
  s_NoGrammar_TooMany : XSub K "NoGrammar" "TooMany" false
  s_NoGrammar_NoGrammar : XSub K "NoGrammar" "NoGrammar" true
  t_NoGrammar_ValueError : XSubT K "NoGrammar" "ValueError" true
  s_TooMany_QuiltError : XSub K "TooMany" "QuiltError" true
  s_TooMany_NoRule : XSub K "TooMany" "NoRule" false
  s_TooMany_TooMany : XSub K "TooMany" "TooMany" true
  s_TooMany_NoGrammar : XSub K "TooMany" "NoGrammar" false
  t_TooMany_ValueError : XSubT K "TooMany" "ValueError" true
  o_Rule : OC K mg "Rule"
  o_CellRule : OC K mg "CellRule"
  o_BesideRule : OC K mg "BesideRule"
  o_AboveRule : OC K mg "AboveRule"
  o_TurnRule : OC K mg "TurnRule"
  o_Grammar : OC K mg "Grammar"
  a_Rule_name : NoA K "Rule" "name"
  a_Rule_cost : NoA K "Rule" "cost"
  m_Rule_init : Dm K "Rule" "__init__" "Rule.__init__" s_Rule_init ["self", "name", "cost"]
  a_CellRule_sign : NoA K "CellRule" "sign"
  a_CellRule_name : NoA K "CellRule" "name"
  a_CellRule_cost : NoA K "CellRule" "cost"
  m_CellRule_init : Dm K "CellRule" "__init__" "CellRule.__init__" s_CellRule_init ["self", "name", "cost", "sign"]
  m_CellRule_renamed : Dm K "CellRule" "renamed" "CellRule.renamed" s_CellRule_renamed ["self", "names"]
  m_CellRule_told : Dm K "CellRule" "told" "CellRule.told" s_CellRule_told ["self"]
  m_CellRule_parts : Dm K "CellRule" "parts" "Rule.parts" s_Rule_parts ["self"]
  m_CellRule_begun : Dm K "CellRule" "begun" "Rule.begun" s_Rule_begun ["self"]
  a_BesideRule_one : NoA K "BesideRule" "one"
  a_BesideRule_other : NoA K "BesideRule" "other"
  a_BesideRule_name : NoA K "BesideRule" "name"
  a_BesideRule_cost : NoA K "BesideRule" "cost"
  m_BesideRule_init : Dm K "BesideRule" "__init__" "BesideRule.__init__" s_BesideRule_init ["self", "name", "cost", "one", "other"]
  m_BesideRule_parts : Dm K "BesideRule" "parts" "BesideRule.parts" s_BesideRule_parts ["self"]
  m_BesideRule_renamed : Dm K "BesideRule" "renamed" "BesideRule.renamed" s_BesideRule_renamed ["self", "names"]
  m_BesideRule_told : Dm K "BesideRule" "told" "BesideRule.told" s_BesideRule_told ["self"]
  m_BesideRule_begun : Dm K "BesideRule" "begun" "Rule.begun" s_Rule_begun ["self"]
  a_AboveRule_one : NoA K "AboveRule" "one"
  a_AboveRule_other : NoA K "AboveRule" "other"
  a_AboveRule_name : NoA K "AboveRule" "name"
  a_AboveRule_cost : NoA K "AboveRule" "cost"
  m_AboveRule_init : Dm K "AboveRule" "__init__" "AboveRule.__init__" s_AboveRule_init ["self", "name", "cost", "one", "other"]
  m_AboveRule_parts : Dm K "AboveRule" "parts" "AboveRule.parts" s_AboveRule_parts ["self"]
  m_AboveRule_renamed : Dm K "AboveRule" "renamed" "AboveRule.renamed" s_AboveRule_renamed ["self", "names"]
  m_AboveRule_told : Dm K "AboveRule" "told" "AboveRule.told" s_AboveRule_told ["self"]
  m_AboveRule_begun : Dm K "AboveRule" "begun" "Rule.begun" s_Rule_begun ["self"]
  a_TurnRule_part : NoA K "TurnRule" "part"
  a_TurnRule_turning : NoA K "TurnRule" "turning"
  a_TurnRule_name : NoA K "TurnRule" "name"
  a_TurnRule_cost : NoA K "TurnRule" "cost"
  m_TurnRule_init : Dm K "TurnRule" "__init__" "TurnRule.__init__" s_TurnRule_init ["self", "name", "cost", "part", "turning"]
  m_TurnRule_parts : Dm K "TurnRule" "parts" "TurnRule.parts" s_TurnRule_parts ["self"]
  m_TurnRule_renamed : Dm K "TurnRule" "renamed" "TurnRule.renamed" s_TurnRule_renamed ["self", "names"]
  m_TurnRule_told : Dm K "TurnRule" "told" "TurnRule.told" s_TurnRule_told ["self"]
  m_TurnRule_begun : Dm K "TurnRule" "begun" "Rule.begun" s_Rule_begun ["self"]
  a_Grammar_signs : NoA K "Grammar" "signs"
  a_Grammar_start : NoA K "Grammar" "start"
  a_Grammar_kept_rules : NoA K "Grammar" "kept_rules"
  a_Grammar_kept_names : NoA K "Grammar" "kept_names"
  m_Grammar_init : Dm K "Grammar" "__init__" "Grammar.__init__" s_Grammar_init ["self", "signs", "start", "rules"]
  m_Grammar_rules : Dm K "Grammar" "rules" "Grammar.rules" s_Grammar_rules ["self"]
  m_Grammar_many : Dm K "Grammar" "many" "Grammar.many" s_Grammar_many ["self"]
  m_Grammar_names : Dm K "Grammar" "names" "Grammar.names" s_Grammar_names ["self"]
  m_Grammar_told : Dm K "Grammar" "told" "Grammar.told" s_Grammar_told ["self"]
  z_Rule : CInit K "Rule"
  u_CellRule_CellRule : OSub K "CellRule" "CellRule" true
  u_BesideRule_CellRule : OSub K "BesideRule" "CellRule" false
  u_AboveRule_CellRule : OSub K "AboveRule" "CellRule" false
  u_TurnRule_CellRule : OSub K "TurnRule" "CellRule" false
  u_Grammar_CellRule : OSub K "Grammar" "CellRule" false
  f_wall : Df K mg "_wall" s_wall ["k"]
  f_beside : Df K mg "beside" s_beside ["one", "other"]
  f_above : Df K mg "above" s_above ["one", "other"]
  f_quarter : Df K mg "quarter" s_quarter ["picture"]
  f_mirrored : Df K mg "mirrored" s_mirrored ["picture"]
  f_turned : Df K mg "turned" s_turned ["picture", "t"]
  f_after : Df K mg "after" s_after ["t", "u"]
  f_back : Df K mg "back" s_back ["t"]
  f_is_name : Df K mg "is_name" s_is_name ["text"]
  f_asked_name : Df K mg "asked_name" s_asked_name ["text"]
  f_turned_pair : Df K mg "turned_pair" s_turned_pair ["name", "cost", "names", "t"]
  f_are_signs : Df K mg "are_signs" s_are_signs ["text"]
  f_names_met : Df K mg "names_met" s_names_met ["start", "rules"]
  f_asked_rules : Df K mg "asked_rules" s_asked_rules ["signs", "rules"]
  f_new_names : Df K mg "new_names" s_new_names ["grammar", "letter"]
  f_joint_rules : Df K mg "joint_rules" s_joint_rules ["one", "other", "way"]
  f_joined : Df K mg "joined" s_joined ["one", "other", "way"]
  f_law_mix : Df K mg "_law_mix" s_law_mix ["_law_cell_here", "_law_k"]
  f_law_cell : Df K mg "_law_cell" s_law_cell ["_law_script", "_law_k"]
  f_law_pool : Df K mg "_law_pool" s_law_pool ["_law_cell_here", "_law_many"]
  f_law_signs : Df K mg "_law_signs" s_law_signs ["_law_cell_here"]
  f_law_rows : Df K mg "_law_rows" s_law_rows ["_law_cells", "_law_names", "_law_signs_here"]
  f_law_rule : Df K mg "_law_rule" s_law_rule ["_law_row"]
  f_law_parts : Df K mg "_law_parts" s_law_parts ["_law_row"]
  f_law_met : Df K mg "_law_met" s_law_met ["_law_start", "_law_rows_here"]
  f_law_one : Df K mg "_law_one" s_law_one ["_law_script", "_law_begin", "_law_cells"]
  f_law_way : Df K mg "_law_way" s_law_way ["_law_cell_here"]
  f_law_asked : Df K mg "_law_asked" s_law_asked ["_law_one_here", "_law_other", "_law_way_here"]
section
variable {P : Program} {w : World} {K : PySem.W.Frag} {mg : Str → Option Value} {base : Heap}
theorem init_NoGrammar (T : Txt K mg) : XInit P w K mg base 1 "NoGrammar" "why" := XInit.of T.i_NoGrammar sc_NoGrammar_init rfl fun C fI TC hno cdv A outer s H E a v Q ha hq => by
  obtain ⟨D, bD⟩ := T.q_QuiltError
  exact WP.cons (ps_expr (pe_qinit bD (pa_cons (pe_var (i := 0) rfl (.inl rfl)) (pa_cons pe_str pa_nil))) rfl) ⟨_, rfl, a, C, _, rfl, by decide, TC, ha, WP.cons (ps_ost (pe_var (i := 0) rfl (.inl rfl)) (pe_var (i := 1) rfl (.inl rfl)) rfl) ⟨v, rfl, _, rfl, a, C, rfl, TC, hno, .inl ⟨ha, fun dx h1 h2 => WP.of pss_nil (hq dx h1 h2)⟩⟩⟩
end
/-! ### rules -/
abbrev capTx : Tx := tx "ABCDEFGHIJKLMNOPQRSTUVWXYZ"
abbrev smallTx : Tx := tx "abcdefghijklmnopqrstuvwxyz"
def isName (x : Tx) : Bool := (decide (1 ≤ x.length) && decide (x.length ≤ 4)) && x.all fun c => decide (c ∈ capTx)
theorem isName_len {x : Tx} (h : isName x = true) : x.length ≤ 4 := by
  unfold isName at h
  simp only [Bool.and_eq_true, decide_eq_true_eq] at h
  exact h.1.2
theorem cap_lt : ∀ c ∈ capTx, c < 128 := by decide +kernel
theorem small_lt : ∀ c ∈ smallTx, c < 128 := by decide +kernel
theorem isName_ok {x : Tx} (h : isName x = true) : TxOk x := fun c hc => by
  unfold isName at h
  simp only [Bool.and_eq_true, List.all_eq_true, decide_eq_true_eq] at h
  have := cap_lt c (h.2 c hc)
  omega
inductive RuleD where
  | cell (name : Tx) (cost : Int) (sign : Tx)
  | beside (name : Tx) (cost : Int) (one other : Tx)
  | above (name : Tx) (cost : Int) (one other : Tx)
  | turn (name : Tx) (cost : Int) (part : Tx) (turning : Int)
  deriving DecidableEq
def RuleD.cls : RuleD → Str
  | .cell .. => "CellRule"
  | .beside .. => "BesideRule"
  | .above .. => "AboveRule"
  | .turn .. => "TurnRule"
def RuleD.name : RuleD → Tx
  | .cell n _ _ => n
  | .beside n _ _ _ => n
  | .above n _ _ _ => n
  | .turn n _ _ _ => n
def RuleD.cost : RuleD → Int
  | .cell _ c _ => c
  | .beside _ c _ _ => c
  | .above _ c _ _ => c
  | .turn _ c _ _ => c
def RuleD.parts : RuleD → List Tx
  | .cell .. => []
  | .beside _ _ a b => [a, b]
  | .above _ _ a b => [a, b]
  | .turn _ _ a _ => [a]
def RuleD.begun (r : RuleD) : Tx := r.name ++ tx " " ++ strI r.cost ++ tx ": "
def RuleD.told (r : RuleD) : Tx := match r with
  | .cell _ _ s => r.begun ++ s
  | .beside _ _ a b => r.begun ++ a ++ tx " | " ++ b
  | .above _ _ a b => r.begun ++ a ++ tx " / " ++ b
  | .turn _ _ a t => r.begun ++ a ++ tx " turned " ++ strI t
def RuleD.flds : RuleD → List (Str × Slot)
  | .cell n c s => [("name", vl n), ("cost", vl c), ("sign", vl s)]
  | .beside n c a b => [("name", vl n), ("cost", vl c), ("one", vl a), ("other", vl b)]
  | .above n c a b => [("name", vl n), ("cost", vl c), ("one", vl a), ("other", vl b)]
  | .turn n c a t => [("name", vl n), ("cost", vl c), ("part", vl a), ("turning", vl t)]
instance : Inst RuleD := ⟨RuleD.cls, RuleD.flds⟩
def costOk (c : Int) : Bool := decide (1 ≤ c) && decide (c ≤ 9)
def signOk (s : Tx) : Bool := decide (s.length = 1) && s.all fun c => decide (c ∈ smallTx)
def RuleD.good : RuleD → Bool
  | .cell n c s => signOk s && (costOk c && isName n)
  | .beside n c a b => (costOk c && isName n) && (isName a && isName b)
  | .above n c a b => (costOk c && isName n) && (isName a && isName b)
  | .turn n c a t => (decide (0 ≤ t) && decide (t ≤ 7)) && ((costOk c && isName n) && isName a)
def NoRule : Exn := ⟨"NoRule", "", .no⟩
def nameS : Tw.Spec := fun A P _ => ∃ (x : Tx), A = [vl x] ∧ x.length ≤ 1000 ∧ P (rv (isName x))
def askedS : Tw.Spec := fun A P R => ∃ (x : Tx), A = [vl x] ∧ x.length ≤ 1000 ∧ (isName x = true → P (rv x)) ∧ (isName x = false → R NoRule)
def ruleInitS (K : PySem.W.Frag) : Tw.Spec := fun A P R => ∃ (C a dx : Addr) (n : Tx) (c : Int), A = [.own (ownI C a dx []), vl n, vl c] ∧ Cls K C ∧ NoAttr K C "name" ∧ NoAttr K C "cost" ∧ n.length ≤ 1000 ∧
  ((costOk c && isName n) = true → P (.chg repUnit () [ownI C a dx [("name", vl n), ("cost", vl c)]])) ∧ ((costOk c && isName n) = false → R NoRule)
def cellInitS (K : PySem.W.Frag) : Tw.Spec := fun A P R => ∃ (C a dx : Addr) (n : Tx) (c : Int) (s : Tx), A = [.own (ownI C a dx []), vl n, vl c, vl s] ∧ PySem.W.nsIn K mainGlobals "CellRule" = some (some (.ref C)) ∧ n.length ≤ 1000 ∧ s.length ≤ 1000 ∧
  ((RuleD.cell n c s).good = true → P (.chg repUnit () [ownI C a dx (RuleD.cell n c s).flds])) ∧ ((RuleD.cell n c s).good = false → R NoRule)
def besideInitS (K : PySem.W.Frag) : Tw.Spec := fun A P R => ∃ (C a dx : Addr) (n : Tx) (c : Int) (x y : Tx), A = [.own (ownI C a dx []), vl n, vl c, vl x, vl y] ∧ PySem.W.nsIn K mainGlobals "BesideRule" = some (some (.ref C)) ∧ n.length ≤ 1000 ∧ x.length ≤ 1000 ∧ y.length ≤ 1000 ∧
  ((RuleD.beside n c x y).good = true → P (.chg repUnit () [ownI C a dx (RuleD.beside n c x y).flds])) ∧ ((RuleD.beside n c x y).good = false → R NoRule)
def aboveInitS (K : PySem.W.Frag) : Tw.Spec := fun A P R => ∃ (C a dx : Addr) (n : Tx) (c : Int) (x y : Tx), A = [.own (ownI C a dx []), vl n, vl c, vl x, vl y] ∧ PySem.W.nsIn K mainGlobals "AboveRule" = some (some (.ref C)) ∧ n.length ≤ 1000 ∧ x.length ≤ 1000 ∧ y.length ≤ 1000 ∧
  ((RuleD.above n c x y).good = true → P (.chg repUnit () [ownI C a dx (RuleD.above n c x y).flds])) ∧ ((RuleD.above n c x y).good = false → R NoRule)
def turnInitS (K : PySem.W.Frag) : Tw.Spec := fun A P R => ∃ (C a dx : Addr) (n : Tx) (c : Int) (x : Tx) (t : Int), A = [.own (ownI C a dx []), vl n, vl c, vl x, vl t] ∧ PySem.W.nsIn K mainGlobals "TurnRule" = some (some (.ref C)) ∧ n.length ≤ 1000 ∧ x.length ≤ 1000 ∧
  ((RuleD.turn n c x t).good = true → P (.chg repUnit () [ownI C a dx (RuleD.turn n c x t).flds])) ∧ ((RuleD.turn n c x t).good = false → R NoRule)
theorem OC.cl {K : PySem.W.Frag} {mg : Str → Option Value} {n : Str} {C : Addr} (h : OC K mg n) (e : PySem.W.nsIn K mainGlobals n = some (some (.ref C))) : Cls K C := by
  obtain ⟨D, kD, _⟩ := h
  obtain rfl := ns_one kD.ns e
  exact kD.cl
section
variable {P : Program} {w : World} {K : PySem.W.Frag} {mg : Str → Option Value} {base : Heap}
theorem lk {f : Str} {fs : List (Str × Slot)} (h : (fs.map (·.1)).contains f = false) : fs.lookup f = none := by
  induction fs with
  | nil => rfl
  | cons p fs ih =>
    obtain ⟨g, s⟩ := p
    rw [List.map_cons, List.contains_cons, Bool.or_eq_false_iff] at h
    rw [lookup_ne (by simpa using h.1)]
    exact ih h.2
theorem ok_is_name (T : Txt K mg) : Has P w K mg base 1 "is_name" ["text"] nameS := by
  refine Has.of T.f_is_name sc_is_name (fun A Q R ⟨x, e, _⟩ => by rw [e]; rfl) fun f cdv A outer s0 H E hr Γ Q R ⟨x, e, hl, hq⟩ => ?_
  subst e
  refine st_retV (ev_eq (y := isName x) (ev_and2 (ev_chain o_le (fun _ => o_le) ev_int (ev_lenS T.b_len (ev_var 0) (sl_small (by omega))) (fun _ => ev_gintE T.c_MOST_LETTERS)) fun _ => ev_all T.b_all (ev_of_en (en_lc (α := Tx) (β := Bool) (own := [("sign", 1)]) (f := fun y => decide (y.headD 0 ∈ capTx)) (src_str (ev_var 0)) (tg_name 1) (fun _ _ _ _ _ => pgn 1 sc_is_name.nd)
    (fun y hy _ _ _ _ _ => ?_) sc_is_name.nd (ok := bk_is_name (by decide +kernel)) (hz := by rw [List.length_map]; exact sl_small (by omega))))) ?_) hq
  · obtain ⟨c, _, rfl⟩ := List.mem_map.mp hy
    exact ev_cmp o_inS (ev_var 1) (ev_gstrE T.c_CAPITALS)
  · unfold isName
    rw [List.map_map, List.all_map]
    congr 1
    congr 1
    · exact decide_eq_decide.mpr (by omega)
    · exact decide_eq_decide.mpr (by omega)
theorem ok_asked_name (T : Txt K mg) : Has P w K mg base 2 "asked_name" ["text"] askedS := by
  refine Has.ofX T.f_asked_name sc_asked_name (fun A Q R ⟨x, e, _⟩ => by rw [e]; rfl) fun f cdv A outer s0 H E hr Γ Q R ⟨x, e, hl, h1, h2⟩ => ?_
  subst e
  refine st_if (et_not (et_val (ev_call (x := isName x) (ok_is_name T) (hr.mono (by decide)) (ea_cons (ev_var 0) ea_nil) fun P R h => ⟨x, rfl, hl, h⟩))) (fun h => ?_) (fun h => st_nil ?_)
  · exact st_raise0 T.x_NoRule T.p_NoRule (h2 (by simpa using h))
  · exact st_retV (ev_var 0) (h1 (by simpa using h))
theorem ok_Rule_init (T : Txt K mg) : HasM P w K mg base 3 "Rule" "__init__" ["self", "name", "cost"] (ruleInitS K) := by
  refine HasM.ofI T.m_Rule_init sc_Rule_init (fun A Q R ⟨C, a, dx, n, c, e, _⟩ => by rw [e]; rfl) fun f cdv A outer s0 H E hr Γ Q R ⟨C, a, dx, n, c, e, hc, hn1, hn2, hl, h1, h2⟩ => ⟨ownI C a dx [], ?_⟩
  subst e
  refine st_if (et_or (et_cmp o_lt (ev_var 2) ev_int) fun _ => et_cmp o_gt (ev_var 2) (ev_gintE T.c_MOST_COST)) (fun h => ?_) (fun h => st_nil ?_)
  · have hb : costOk c = false := by
      unfold costOk
      simp only [Bool.or_eq_true, decide_eq_true_eq, Bool.and_eq_false_iff, decide_eq_false_iff_not] at h ⊢
      omega
    exact st_raise0 T.x_NoRule T.p_NoRule (h2 (by rw [hb]; rfl))
  have hb : costOk c = true := by
    unfold costOk
    simp only [Bool.or_eq_false_iff, decide_eq_false_iff_not, Bool.and_eq_true, decide_eq_true_eq] at h ⊢
    omega
  rw [hb, Bool.true_and] at h1 h2
  cases hn : isName n with
  | false =>
    exact st_setFR (R := fun y => y = NoRule) (exx_call (ok_asked_name T) (hr.mono (by decide)) (ea_cons (ev_var 1) ea_nil) fun P' R' _ h => ⟨n, rfl, hl, fun z => by (rw [hn] at z; cases z), fun _ => h _ rfl⟩) (fun x e => e ▸ h2 hn) 0
  | true =>
    refine st_setF 0 (fs := []) (ev_call (x := n) (ok_asked_name T) (hr.mono (by decide)) (ea_cons (ev_var 1) ea_nil) fun P' R' h => ⟨n, rfl, hl, fun _ => h, fun z => by rw [hn] at z; cases z⟩) ?_ hc hn1 rfl
    exact st_setF 0 (fs := [("name", vl n)]) (ev_var 2) (st_nil ⟨_, rfl, rfl, h1 hn⟩) hc hn2 (lk rfl)
theorem ok_CellRule_init (T : Txt K mg) : HasM P w K mg base 4 "CellRule" "__init__" ["self", "name", "cost", "sign"] (cellInitS K) := by
  refine HasM.ofI T.m_CellRule_init sc_CellRule_init (fun A Q R ⟨C, a, dx, n, c, s, e, _⟩ => by rw [e]; rfl) fun f cdv A outer s0 H E hr Γ Q R ⟨C, a, dx, n, c, s, e, hC, hl, hls, h1, h2⟩ => ⟨ownI C a dx [], ?_⟩
  subst e
  have hc := OC.cl T.o_CellRule hC
  have key : ∀ k : Bool, k = signOk s → ((k = true → (RuleD.cell n c s).good = (costOk c && isName n)) ∧ (k = false → (RuleD.cell n c s).good = false)) := fun k e => by
    subst e
    show (_ → (signOk s && (costOk c && isName n)) = _) ∧ (_ → (signOk s && (costOk c && isName n)) = _)
    exact ⟨fun h => by rw [h, Bool.true_and], fun h => by rw [h, Bool.false_and]⟩
  have hlen : EV (cxOf (L2.CX P w) P w K mg base N_CellRule_init "CellRule.__init__" (defScope s_CellRule_init) f cdv A outer s0 H E) [.own (ownI C a dx []), vl n, vl c, vl s] = EV (cxOf (L2.CX P w) P w K mg base N_CellRule_init "CellRule.__init__" (defScope s_CellRule_init) f cdv A outer s0 H E) [.own (ownI C a dx []), vl n, vl c, vl s] := rfl
  have rest : signOk s = true → Tw.ST (cxOf (L2.CX P w) P w K mg base N_CellRule_init "CellRule.__init__" (defScope s_CellRule_init) f cdv A outer s0 H E) ((defBody s_CellRule_init).drop 1) [.own (ownI C a dx []), vl n, vl c, vl s] (finI (ownI C a dx []) Q R) := fun hs => by
    have hg := (key _ rfl).1 hs
    cases hnc : (costOk c && isName n) with
    | false =>
      rw [hnc] at hg
      exact st_dropG (P := fun _ _ => False) (R := fun y Γ' => y = NoRule) (eg_cinit 0 (G := fun _ _ => False) T.o_Rule T.z_Rule (ok_Rule_init T) (hr.mono (by decide)) (eab_o 0 (eab_v (ev_var 1) (eab_v (ev_var 2) eab_nil))) rfl rfl (fun _ _ z => z.elim) (fun _ _ z => z.elim) fun P' R' _ h => ⟨C, a, dx, n, c, rfl, hc, T.a_CellRule_name C hC, T.a_CellRule_cost C hC, hl, fun z => by (rw [hnc] at z; cases z), fun _ => h _ rfl⟩) (fun _ _ z => z.elim) (fun y Γ' e => e ▸ h2 hg)
    | true =>
      rw [hnc] at hg
      refine st_dropG (P := fun _ Γ' => Γ' = _) (R := fun y Γ' => False) (eg_cinit 0 (G := fun _ o' => o' = ownI C a dx [("name", vl n), ("cost", vl c)]) T.o_Rule T.z_Rule (ok_Rule_init T) (hr.mono (by decide)) (eab_o 0 (eab_v (ev_var 1) (eab_v (ev_var 2) eab_nil))) rfl rfl (fun _ o' e => by (rw [e]; rfl)) (fun _ o' e => by rw [e]) fun P' R' h _ => ⟨C, a, dx, n, c, rfl, hc, T.a_CellRule_name C hC, T.a_CellRule_cost C hC, hl, fun _ => h () _ rfl, fun z => by rw [hnc] at z; cases z⟩) (fun _ Γ' e => e ▸ ?_) (fun y Γ' z => z.elim)
      exact st_setF 0 (fs := [("name", vl n), ("cost", vl c)]) (ev_var 3) (st_nil ⟨_, rfl, rfl, h1 hg⟩) hc (T.a_CellRule_sign C hC) (lk rfl)
  by_cases h1s : s.length = 1
  · obtain ⟨d, rfl⟩ : ∃ d, s = [d] := by
      match s, h1s with
      | [d], _ => exact ⟨d, rfl⟩
    refine st_if (et_or (et_cmp o_ne (ev_lenS T.b_len (ev_var 3) (sl_small (by simp))) ev_int) fun _ => et_cmp (o_notInS (c := d)) (ev_var 3) (ev_gstrE T.c_SMALL)) (fun h => ?_) (fun h => st_nil (rest ?_))
    · have h' : (!decide (d ∈ smallTx)) = true := h
      refine st_raise0 T.x_NoRule T.p_NoRule (h2 ((key _ rfl).2 ?_))
      show (true && (decide (d ∈ smallTx) && true)) = false
      generalize decide (d ∈ smallTx) = k at h' ⊢
      revert h'; cases k <;> decide
    · have h' : (!decide (d ∈ smallTx)) = false := h
      show (true && (decide (d ∈ smallTx) && true)) = true
      generalize decide (d ∈ smallTx) = k at h' ⊢
      revert h'; cases k <;> decide
  · refine st_if (k := true) (et_eq (et_or (m := false) (et_cmp o_ne (ev_lenS T.b_len (ev_var 3) (sl_small (by omega))) ev_int) fun h => absurd h ?_) ?_) (fun _ => st_raise0 T.x_NoRule T.p_NoRule (h2 ((key _ rfl).2 ?_))) (fun h => nomatch h)
    · simp; omega
    · simp; omega
    · unfold signOk
      rw [decide_eq_false h1s]; rfl
theorem ok_BesideRule_init (T : Txt K mg) : HasM P w K mg base 4 "BesideRule" "__init__" ["self", "name", "cost", "one", "other"] (besideInitS K) := by
  refine HasM.ofI T.m_BesideRule_init sc_BesideRule_init (fun A Q R ⟨C, a, dx, n, c, x, y, e, _⟩ => by rw [e]; rfl) fun f cdv A outer s0 H E hr Γ Q R ⟨C, a, dx, n, c, x, y, e, hC, hl, hlx, hly, h1, h2⟩ => ⟨ownI C a dx [], ?_⟩
  subst e
  have hc := OC.cl T.o_BesideRule hC
  cases hnc : (costOk c && isName n) with
  | false =>
    refine st_dropG (P := fun _ _ => False) (R := fun y Γ' => y = NoRule) (eg_cinit 0 (G := fun _ _ => False) T.o_Rule T.z_Rule (ok_Rule_init T) (hr.mono (by decide)) (eab_o 0 (eab_v (ev_var 1) (eab_v (ev_var 2) eab_nil))) rfl rfl (fun _ _ z => z.elim) (fun _ _ z => z.elim) fun P' R' _ h => ⟨C, a, dx, n, c, rfl, hc, T.a_BesideRule_name C hC, T.a_BesideRule_cost C hC, hl, fun z => by (rw [hnc] at z; cases z), fun _ => h _ rfl⟩) (fun _ _ z => z.elim) (fun y' Γ' e => e ▸ h2 ?_)
    show ((costOk c && isName n) && (isName x && isName y)) = false
    rw [hnc]; rfl
  | true =>
    refine st_dropG (P := fun _ Γ' => Γ' = _) (R := fun y Γ' => False) (eg_cinit 0 (G := fun _ o' => o' = ownI C a dx [("name", vl n), ("cost", vl c)]) T.o_Rule T.z_Rule (ok_Rule_init T) (hr.mono (by decide)) (eab_o 0 (eab_v (ev_var 1) (eab_v (ev_var 2) eab_nil))) rfl rfl (fun _ o' e => by (rw [e]; rfl)) (fun _ o' e => by rw [e]) fun P' R' h _ => ⟨C, a, dx, n, c, rfl, hc, T.a_BesideRule_name C hC, T.a_BesideRule_cost C hC, hl, fun _ => h () _ rfl, fun z => by rw [hnc] at z; cases z⟩) (fun _ Γ' e => e ▸ ?_) (fun y Γ' z => z.elim)
    cases hx : isName x with
    | false =>
      refine st_setFR (R := fun y => y = NoRule) (exx_call (ok_asked_name T) (hr.mono (by decide)) (ea_cons (ev_var 3) ea_nil) fun P' R' _ h => ⟨x, rfl, hlx, fun z => by (rw [hx] at z; cases z), fun _ => h _ rfl⟩) (fun y' e => e ▸ h2 ?_) 0
      show ((costOk c && isName n) && (isName x && isName y)) = false
      rw [hnc, hx]; rfl
    | true =>
      refine st_setF 0 (fs := [("name", vl n), ("cost", vl c)]) (ev_call (x := x) (ok_asked_name T) (hr.mono (by decide)) (ea_cons (ev_var 3) ea_nil) fun P' R' h => ⟨x, rfl, hlx, fun _ => h, fun z => by rw [hx] at z; cases z⟩) ?_ hc (T.a_BesideRule_one C hC) (lk rfl)
      cases hy : isName y with
      | false =>
        refine st_setFR (R := fun y => y = NoRule) (exx_call (ok_asked_name T) (hr.mono (by decide)) (ea_cons (ev_var 4) ea_nil) fun P' R' _ h => ⟨y, rfl, hly, fun z => by (rw [hy] at z; cases z), fun _ => h _ rfl⟩) (fun y' e => e ▸ h2 ?_) 0
        show ((costOk c && isName n) && (isName x && isName y)) = false
        rw [hnc, hx, hy]; rfl
      | true =>
        refine st_setF 0 (fs := [("name", vl n), ("cost", vl c), ("one", vl x)]) (ev_call (x := y) (ok_asked_name T) (hr.mono (by decide)) (ea_cons (ev_var 4) ea_nil) fun P' R' h => ⟨y, rfl, hly, fun _ => h, fun z => by rw [hy] at z; cases z⟩) (st_nil ⟨_, rfl, rfl, h1 ?_⟩) hc (T.a_BesideRule_other C hC) (lk rfl)
        show ((costOk c && isName n) && (isName x && isName y)) = true
        rw [hnc, hx, hy]; rfl
theorem ok_AboveRule_init (T : Txt K mg) : HasM P w K mg base 4 "AboveRule" "__init__" ["self", "name", "cost", "one", "other"] (aboveInitS K) := by
  refine HasM.ofI T.m_AboveRule_init sc_AboveRule_init (fun A Q R ⟨C, a, dx, n, c, x, y, e, _⟩ => by rw [e]; rfl) fun f cdv A outer s0 H E hr Γ Q R ⟨C, a, dx, n, c, x, y, e, hC, hl, hlx, hly, h1, h2⟩ => ⟨ownI C a dx [], ?_⟩
  subst e
  have hc := OC.cl T.o_AboveRule hC
  cases hnc : (costOk c && isName n) with
  | false =>
    refine st_dropG (P := fun _ _ => False) (R := fun y Γ' => y = NoRule) (eg_cinit 0 (G := fun _ _ => False) T.o_Rule T.z_Rule (ok_Rule_init T) (hr.mono (by decide)) (eab_o 0 (eab_v (ev_var 1) (eab_v (ev_var 2) eab_nil))) rfl rfl (fun _ _ z => z.elim) (fun _ _ z => z.elim) fun P' R' _ h => ⟨C, a, dx, n, c, rfl, hc, T.a_AboveRule_name C hC, T.a_AboveRule_cost C hC, hl, fun z => by (rw [hnc] at z; cases z), fun _ => h _ rfl⟩) (fun _ _ z => z.elim) (fun y' Γ' e => e ▸ h2 ?_)
    show ((costOk c && isName n) && (isName x && isName y)) = false
    rw [hnc]; rfl
  | true =>
    refine st_dropG (P := fun _ Γ' => Γ' = _) (R := fun y Γ' => False) (eg_cinit 0 (G := fun _ o' => o' = ownI C a dx [("name", vl n), ("cost", vl c)]) T.o_Rule T.z_Rule (ok_Rule_init T) (hr.mono (by decide)) (eab_o 0 (eab_v (ev_var 1) (eab_v (ev_var 2) eab_nil))) rfl rfl (fun _ o' e => by (rw [e]; rfl)) (fun _ o' e => by rw [e]) fun P' R' h _ => ⟨C, a, dx, n, c, rfl, hc, T.a_AboveRule_name C hC, T.a_AboveRule_cost C hC, hl, fun _ => h () _ rfl, fun z => by rw [hnc] at z; cases z⟩) (fun _ Γ' e => e ▸ ?_) (fun y Γ' z => z.elim)
    cases hx : isName x with
    | false =>
      refine st_setFR (R := fun y => y = NoRule) (exx_call (ok_asked_name T) (hr.mono (by decide)) (ea_cons (ev_var 3) ea_nil) fun P' R' _ h => ⟨x, rfl, hlx, fun z => by (rw [hx] at z; cases z), fun _ => h _ rfl⟩) (fun y' e => e ▸ h2 ?_) 0
      show ((costOk c && isName n) && (isName x && isName y)) = false
      rw [hnc, hx]; rfl
    | true =>
      refine st_setF 0 (fs := [("name", vl n), ("cost", vl c)]) (ev_call (x := x) (ok_asked_name T) (hr.mono (by decide)) (ea_cons (ev_var 3) ea_nil) fun P' R' h => ⟨x, rfl, hlx, fun _ => h, fun z => by rw [hx] at z; cases z⟩) ?_ hc (T.a_AboveRule_one C hC) (lk rfl)
      cases hy : isName y with
      | false =>
        refine st_setFR (R := fun y => y = NoRule) (exx_call (ok_asked_name T) (hr.mono (by decide)) (ea_cons (ev_var 4) ea_nil) fun P' R' _ h => ⟨y, rfl, hly, fun z => by (rw [hy] at z; cases z), fun _ => h _ rfl⟩) (fun y' e => e ▸ h2 ?_) 0
        show ((costOk c && isName n) && (isName x && isName y)) = false
        rw [hnc, hx, hy]; rfl
      | true =>
        refine st_setF 0 (fs := [("name", vl n), ("cost", vl c), ("one", vl x)]) (ev_call (x := y) (ok_asked_name T) (hr.mono (by decide)) (ea_cons (ev_var 4) ea_nil) fun P' R' h => ⟨y, rfl, hly, fun _ => h, fun z => by rw [hy] at z; cases z⟩) (st_nil ⟨_, rfl, rfl, h1 ?_⟩) hc (T.a_AboveRule_other C hC) (lk rfl)
        show ((costOk c && isName n) && (isName x && isName y)) = true
        rw [hnc, hx, hy]; rfl
theorem ok_TurnRule_init (T : Txt K mg) : HasM P w K mg base 4 "TurnRule" "__init__" ["self", "name", "cost", "part", "turning"] (turnInitS K) := by
  refine HasM.ofI T.m_TurnRule_init sc_TurnRule_init (fun A Q R ⟨C, a, dx, n, c, x, t, e, _⟩ => by rw [e]; rfl) fun f cdv A outer s0 H E hr Γ Q R ⟨C, a, dx, n, c, x, t, e, hC, hl, hlx, h1, h2⟩ => ⟨ownI C a dx [], ?_⟩
  subst e
  have hc := OC.cl T.o_TurnRule hC
  have good : (RuleD.turn n c x t).good = ((decide (0 ≤ t) && decide (t ≤ 7)) && ((costOk c && isName n) && isName x)) := rfl
  rw [good] at h1 h2
  refine st_if (et_or (et_cmp o_lt (ev_var 4) ev_int) fun _ => et_cmp o_gt (ev_var 4) ev_int) (fun h => ?_) (fun h => st_nil ?_)
  · refine st_raise0 T.x_NoRule T.p_NoRule (h2 ?_)
    have : (decide (0 ≤ t) && decide (t ≤ 7)) = false := by
      simp only [Bool.or_eq_true, decide_eq_true_eq, Bool.and_eq_false_iff, decide_eq_false_iff_not] at h ⊢
      omega
    rw [this]; rfl
  have ht : (decide (0 ≤ t) && decide (t ≤ 7)) = true := by
    simp only [Bool.or_eq_false_iff, decide_eq_false_iff_not, Bool.and_eq_true, decide_eq_true_eq] at h ⊢
    omega
  rw [ht, Bool.true_and] at h1 h2
  cases hnc : (costOk c && isName n) with
  | false =>
    exact st_dropG (P := fun _ _ => False) (R := fun y Γ' => y = NoRule) (eg_cinit 0 (G := fun _ _ => False) T.o_Rule T.z_Rule (ok_Rule_init T) (hr.mono (by decide)) (eab_o 0 (eab_v (ev_var 1) (eab_v (ev_var 2) eab_nil))) rfl rfl (fun _ _ z => z.elim) (fun _ _ z => z.elim) fun P' R' _ h => ⟨C, a, dx, n, c, rfl, hc, T.a_TurnRule_name C hC, T.a_TurnRule_cost C hC, hl, fun z => by (rw [hnc] at z; cases z), fun _ => h _ rfl⟩) (fun _ _ z => z.elim) (fun y Γ' e => e ▸ h2 (by rw [hnc]; rfl))
  | true =>
    rw [hnc, Bool.true_and] at h1 h2
    refine st_dropG (P := fun _ Γ' => Γ' = _) (R := fun y Γ' => False) (eg_cinit 0 (G := fun _ o' => o' = ownI C a dx [("name", vl n), ("cost", vl c)]) T.o_Rule T.z_Rule (ok_Rule_init T) (hr.mono (by decide)) (eab_o 0 (eab_v (ev_var 1) (eab_v (ev_var 2) eab_nil))) rfl rfl (fun _ o' e => by (rw [e]; rfl)) (fun _ o' e => by rw [e]) fun P' R' h _ => ⟨C, a, dx, n, c, rfl, hc, T.a_TurnRule_name C hC, T.a_TurnRule_cost C hC, hl, fun _ => h () _ rfl, fun z => by rw [hnc] at z; cases z⟩) (fun _ Γ' e => e ▸ ?_) (fun y Γ' z => z.elim)
    cases hx : isName x with
    | false => exact st_setFR (R := fun y => y = NoRule) (exx_call (ok_asked_name T) (hr.mono (by decide)) (ea_cons (ev_var 3) ea_nil) fun P' R' _ h => ⟨x, rfl, hlx, fun z => by (rw [hx] at z; cases z), fun _ => h _ rfl⟩) (fun y' e => e ▸ h2 hx) 0
    | true =>
      refine st_setF 0 (fs := [("name", vl n), ("cost", vl c)]) (ev_call (x := x) (ok_asked_name T) (hr.mono (by decide)) (ea_cons (ev_var 3) ea_nil) fun P' R' h => ⟨x, rfl, hlx, fun _ => h, fun z => by rw [hx] at z; cases z⟩) ?_ hc (T.a_TurnRule_part C hC) (lk rfl)
      exact st_setF 0 (fs := [("name", vl n), ("cost", vl c), ("part", vl x)]) (ev_var 4) (st_nil ⟨_, rfl, rfl, h1 hx⟩) hc (T.a_TurnRule_turning C hC) (lk rfl)
end

/-! ### the rules' methods -/
theorem strI_one : ∀ n : Nat, n < 10 → strI (n : Int) = [48 + n] := by decide +kernel
theorem RuleD.f_name (r : RuleD) : r.flds.lookup ("name" : Str) = some (vl r.name) := by cases r <;> rfl
theorem RuleD.f_cost (r : RuleD) : r.flds.lookup ("cost" : Str) = some (vl r.cost) := by cases r <;> rfl
theorem costOk_of {c : Int} (h : costOk c = true) : 1 ≤ c ∧ c ≤ 9 := by
  unfold costOk at h
  simpa using h
theorem signOk_of {s : Tx} (h : signOk s = true) : s.length = 1 := by
  unfold signOk at h
  rw [Bool.and_eq_true, decide_eq_true_eq] at h
  exact h.1
theorem RuleD.good_of {r : RuleD} (h : r.good = true) : isName r.name = true ∧ costOk r.cost = true := by
  cases r <;> simp only [RuleD.good, Bool.and_eq_true] at h <;> simp_all [RuleD.name, RuleD.cost]
theorem RuleD.bounds {r : RuleD} (h : r.good = true) : r.name.length ≤ 4 ∧ 1 ≤ r.cost ∧ r.cost ≤ 9 := by
  obtain ⟨h1, h2⟩ := RuleD.good_of h
  have := costOk_of h2
  exact ⟨isName_len h1, this⟩
theorem strI_len {c : Int} (h : 0 ≤ c ∧ c ≤ 9) : (strI c).length = 1 := by
  have := strI_one c.toNat (by omega)
  rw [show ((c.toNat : Nat) : Int) = c by omega] at this
  rw [this]; rfl
theorem log2_small {c : Int} (h : 0 ≤ c ∧ c ≤ 9) : c.natAbs.log2 < 1920 := by
  have h1 : ∀ n : Nat, n < 10 → n.log2 < 1920 := by decide
  exact h1 _ (by omega)
theorem RuleD.begun_len {r : RuleD} (h : r.good = true) : r.begun.length ≤ 8 := by
  obtain ⟨h1, h2⟩ := RuleD.bounds h
  have := strI_len (c := r.cost) (by omega)
  unfold RuleD.begun
  simp only [List.length_append]
  rw [this]
  show r.name.length + 1 + 1 + 2 ≤ 8
  omega
theorem RuleD.parts_ok {r : RuleD} (h : r.good = true) : ∀ x ∈ r.parts, isName x = true := by
  cases r <;> simp only [RuleD.good, Bool.and_eq_true] at h <;> simp [RuleD.parts, h]

/-! ### facts of all four classes -/
section
variable {K : PySem.W.Frag} {mg : Str → Option Value}
theorem o_cls (T : Txt K mg) (r : RuleD) : OC K mg r.cls := by
  cases r
  · exact T.o_CellRule
  · exact T.o_BesideRule
  · exact T.o_AboveRule
  · exact T.o_TurnRule
theorem a_name (T : Txt K mg) (r : RuleD) : NoA K r.cls "name" := by
  cases r
  · exact T.a_CellRule_name
  · exact T.a_BesideRule_name
  · exact T.a_AboveRule_name
  · exact T.a_TurnRule_name
theorem a_cost (T : Txt K mg) (r : RuleD) : NoA K r.cls "cost" := by
  cases r
  · exact T.a_CellRule_cost
  · exact T.a_BesideRule_cost
  · exact T.a_AboveRule_cost
  · exact T.a_TurnRule_cost
end

/-! ### rules made, well or not -/
def RuleD.short : RuleD → Prop
  | .cell n _ s => n.length ≤ 1000 ∧ s.length ≤ 1000
  | .beside n _ a b => n.length ≤ 1000 ∧ a.length ≤ 1000 ∧ b.length ≤ 1000
  | .above n _ a b => n.length ≤ 1000 ∧ a.length ≤ 1000 ∧ b.length ≤ 1000
  | .turn n _ a _ => n.length ≤ 1000 ∧ a.length ≤ 1000
theorem RuleD.good_short {r : RuleD} (h : r.good = true) : r.short := by
  cases r <;> simp only [RuleD.good, Bool.and_eq_true] at h
  · have := isName_len h.2.2; have := signOk_of h.1; exact ⟨by omega, by omega⟩
  · have := isName_len h.1.2; have := isName_len h.2.1; have := isName_len h.2.2; exact ⟨by omega, by omega, by omega⟩
  · have := isName_len h.1.2; have := isName_len h.2.1; have := isName_len h.2.2; exact ⟨by omega, by omega, by omega⟩
  · have := isName_len h.2.1.2; have := isName_len h.2.2; exact ⟨by omega, by omega⟩
section
variable {X : Cx} {Γ : List Slot} {pos p : Pos} {e : Expr} {es : List Expr} {k : Nat} {n s x y : Tx} {c t : Int}
theorem mkx_cell (T : Txt X.K X.mg) (hr : Room k X.A) (ha : EA X Γ (e :: es) [vl n, vl c, vl s]) (h1 : n.length ≤ 1000) (h2 : s.length ≤ 1000) (hk : 5 ≤ k := by decide) (hg : Gl X "CellRule" := by rfl) (he : starEach (e :: es) X.env = (false, eval e X.env) :: starEach es X.env := by exact star_of rfl) (hpl : (backTo pos (starEach es X.env)).any (·.1) = false := by exact pl_of rfl) :
    EXX X Γ (.Call (.Name "CellRule" p) (e :: es) [] pos) (fun r => r = rv (RuleD.cell n c s) ∧ (RuleD.cell n c s).good = true) (fun y => y = NoRule ∧ (RuleD.cell n c s).good = false) := by
  cases hgd : (RuleD.cell n c s).good with
  | true => exact exx_imp (R := fun _ => False) (exx_makeV (x := RuleD.cell n c s) T.o_CellRule (ok_CellRule_init T) (hr.mono hk) rfl ha (fun C hC ad dx P' R' h _ => ⟨C, ad, dx, n, c, s, rfl, hC, h1, h2, fun _ => h, fun z => by rw [hgd] at z; cases z⟩) hg (by decide) he hpl) (fun r e => ⟨e, rfl⟩) fun _ z => z.elim
  | false => exact exx_imp (P := fun _ => False) (R := fun y => y = NoRule) (exx_make (fs := []) T.o_CellRule (ok_CellRule_init T) (hr.mono hk) ha (fun C hC ad dx P' R' _ h => ⟨C, ad, dx, n, c, s, rfl, hC, h1, h2, fun z => by (rw [hgd] at z; cases z), fun _ => h _ rfl⟩) hg (by decide) he hpl) (fun _ z => z.elim) fun y e => ⟨e, rfl⟩
theorem mkx_beside (T : Txt X.K X.mg) (hr : Room k X.A) (ha : EA X Γ (e :: es) [vl n, vl c, vl x, vl y]) (h1 : n.length ≤ 1000) (h2 : x.length ≤ 1000) (h3 : y.length ≤ 1000) (hk : 5 ≤ k := by decide) (hg : Gl X "BesideRule" := by rfl) (he : starEach (e :: es) X.env = (false, eval e X.env) :: starEach es X.env := by exact star_of rfl) (hpl : (backTo pos (starEach es X.env)).any (·.1) = false := by exact pl_of rfl) :
    EXX X Γ (.Call (.Name "BesideRule" p) (e :: es) [] pos) (fun r => r = rv (RuleD.beside n c x y) ∧ (RuleD.beside n c x y).good = true) (fun z => z = NoRule ∧ (RuleD.beside n c x y).good = false) := by
  cases hgd : (RuleD.beside n c x y).good with
  | true => exact exx_imp (R := fun _ => False) (exx_makeV (x := RuleD.beside n c x y) T.o_BesideRule (ok_BesideRule_init T) (hr.mono hk) rfl ha (fun C hC ad dx P' R' h _ => ⟨C, ad, dx, n, c, x, y, rfl, hC, h1, h2, h3, fun _ => h, fun z => by rw [hgd] at z; cases z⟩) hg (by decide) he hpl) (fun r e => ⟨e, rfl⟩) fun _ z => z.elim
  | false => exact exx_imp (P := fun _ => False) (R := fun y => y = NoRule) (exx_make (fs := []) T.o_BesideRule (ok_BesideRule_init T) (hr.mono hk) ha (fun C hC ad dx P' R' _ h => ⟨C, ad, dx, n, c, x, y, rfl, hC, h1, h2, h3, fun z => by (rw [hgd] at z; cases z), fun _ => h _ rfl⟩) hg (by decide) he hpl) (fun _ z => z.elim) fun y e => ⟨e, rfl⟩
theorem mkx_above (T : Txt X.K X.mg) (hr : Room k X.A) (ha : EA X Γ (e :: es) [vl n, vl c, vl x, vl y]) (h1 : n.length ≤ 1000) (h2 : x.length ≤ 1000) (h3 : y.length ≤ 1000) (hk : 5 ≤ k := by decide) (hg : Gl X "AboveRule" := by rfl) (he : starEach (e :: es) X.env = (false, eval e X.env) :: starEach es X.env := by exact star_of rfl) (hpl : (backTo pos (starEach es X.env)).any (·.1) = false := by exact pl_of rfl) :
    EXX X Γ (.Call (.Name "AboveRule" p) (e :: es) [] pos) (fun r => r = rv (RuleD.above n c x y) ∧ (RuleD.above n c x y).good = true) (fun z => z = NoRule ∧ (RuleD.above n c x y).good = false) := by
  cases hgd : (RuleD.above n c x y).good with
  | true => exact exx_imp (R := fun _ => False) (exx_makeV (x := RuleD.above n c x y) T.o_AboveRule (ok_AboveRule_init T) (hr.mono hk) rfl ha (fun C hC ad dx P' R' h _ => ⟨C, ad, dx, n, c, x, y, rfl, hC, h1, h2, h3, fun _ => h, fun z => by rw [hgd] at z; cases z⟩) hg (by decide) he hpl) (fun r e => ⟨e, rfl⟩) fun _ z => z.elim
  | false => exact exx_imp (P := fun _ => False) (R := fun y => y = NoRule) (exx_make (fs := []) T.o_AboveRule (ok_AboveRule_init T) (hr.mono hk) ha (fun C hC ad dx P' R' _ h => ⟨C, ad, dx, n, c, x, y, rfl, hC, h1, h2, h3, fun z => by (rw [hgd] at z; cases z), fun _ => h _ rfl⟩) hg (by decide) he hpl) (fun _ z => z.elim) fun y e => ⟨e, rfl⟩
theorem mkx_turn (T : Txt X.K X.mg) (hr : Room k X.A) (ha : EA X Γ (e :: es) [vl n, vl c, vl x, vl t]) (h1 : n.length ≤ 1000) (h2 : x.length ≤ 1000) (hk : 5 ≤ k := by decide) (hg : Gl X "TurnRule" := by rfl) (he : starEach (e :: es) X.env = (false, eval e X.env) :: starEach es X.env := by exact star_of rfl) (hpl : (backTo pos (starEach es X.env)).any (·.1) = false := by exact pl_of rfl) :
    EXX X Γ (.Call (.Name "TurnRule" p) (e :: es) [] pos) (fun r => r = rv (RuleD.turn n c x t) ∧ (RuleD.turn n c x t).good = true) (fun z => z = NoRule ∧ (RuleD.turn n c x t).good = false) := by
  cases hgd : (RuleD.turn n c x t).good with
  | true => exact exx_imp (R := fun _ => False) (exx_makeV (x := RuleD.turn n c x t) T.o_TurnRule (ok_TurnRule_init T) (hr.mono hk) rfl ha (fun C hC ad dx P' R' h _ => ⟨C, ad, dx, n, c, x, t, rfl, hC, h1, h2, fun _ => h, fun z => by rw [hgd] at z; cases z⟩) hg (by decide) he hpl) (fun r e => ⟨e, rfl⟩) fun _ z => z.elim
  | false => exact exx_imp (P := fun _ => False) (R := fun y => y = NoRule) (exx_make (fs := []) T.o_TurnRule (ok_TurnRule_init T) (hr.mono hk) ha (fun C hC ad dx P' R' _ h => ⟨C, ad, dx, n, c, x, t, rfl, hC, h1, h2, fun z => by (rw [hgd] at z; cases z), fun _ => h _ rfl⟩) hg (by decide) he hpl) (fun _ z => z.elim) fun y e => ⟨e, rfl⟩
/-- a rule well made -/
theorem ev_good {e : Expr} {r : RuleD} (h : EXX X Γ e (fun q => q = rv r ∧ r.good = true) (fun y => y = NoRule ∧ r.good = false)) (hg : r.good = true) : EV X Γ e r :=
  ev_of_ex (ex_of_exx (exx_imp h (fun _ z => z.1) fun _ z => by rw [hg] at z; cases z.2))
end

def partsS (n : Str) : Tw.Spec := fun A P _ => ∃ (r : RuleD), A = [vl r] ∧ r.cls = n ∧ P (rn r.parts)
section
variable {P : Program} {w : World} {K : PySem.W.Frag} {mg : Str → Option Value} {base : Heap}
theorem ok_CellRule_parts (T : Txt K mg) : HasM P w K mg base 1 "CellRule" "parts" ["self"] (partsS "CellRule") := by
  refine HasM.of T.m_CellRule_parts sc_Rule_parts (fun A Q R ⟨r, e, _⟩ => by rw [e]; rfl) fun f cdv A outer s0 H E hr Γ Q R ⟨r, e, hcl, hq⟩ => ?_
  subst e
  cases r <;> first | exact st_retE (en_lst es_nil) hq | exact absurd hcl (of_decide_eq_false rfl)
theorem ok_BesideRule_parts (T : Txt K mg) : HasM P w K mg base 1 "BesideRule" "parts" ["self"] (partsS "BesideRule") := by
  refine HasM.of T.m_BesideRule_parts sc_BesideRule_parts (fun A Q R ⟨r, e, _⟩ => by rw [e]; rfl) fun f cdv A outer s0 H E hr Γ Q R ⟨r, e, hcl, hq⟩ => ?_
  subst e
  cases r with
  | beside n c x y => exact st_retE (en_lst (es_cons (ev_fld T.o_BesideRule T.a_BesideRule_one hcl rfl (ev_var 0)) (es_cons (ev_fld T.o_BesideRule T.a_BesideRule_other hcl rfl (ev_var 0)) es_nil))) hq
  | _ => exact absurd hcl (of_decide_eq_false rfl)
theorem ok_AboveRule_parts (T : Txt K mg) : HasM P w K mg base 1 "AboveRule" "parts" ["self"] (partsS "AboveRule") := by
  refine HasM.of T.m_AboveRule_parts sc_AboveRule_parts (fun A Q R ⟨r, e, _⟩ => by rw [e]; rfl) fun f cdv A outer s0 H E hr Γ Q R ⟨r, e, hcl, hq⟩ => ?_
  subst e
  cases r with
  | above n c x y => exact st_retE (en_lst (es_cons (ev_fld T.o_AboveRule T.a_AboveRule_one hcl rfl (ev_var 0)) (es_cons (ev_fld T.o_AboveRule T.a_AboveRule_other hcl rfl (ev_var 0)) es_nil))) hq
  | _ => exact absurd hcl (of_decide_eq_false rfl)
theorem ok_TurnRule_parts (T : Txt K mg) : HasM P w K mg base 1 "TurnRule" "parts" ["self"] (partsS "TurnRule") := by
  refine HasM.of T.m_TurnRule_parts sc_TurnRule_parts (fun A Q R ⟨r, e, _⟩ => by rw [e]; rfl) fun f cdv A outer s0 H E hr Γ Q R ⟨r, e, hcl, hq⟩ => ?_
  subst e
  cases r with
  | turn n c x t => exact st_retE (en_lst (es_cons (ev_fld T.o_TurnRule T.a_TurnRule_part hcl rfl (ev_var 0)) es_nil)) hq
  | _ => exact absurd hcl (of_decide_eq_false rfl)
theorem RuleD.f_parts (r : RuleD) : r.flds.lookup ("parts" : Str) = none := by cases r <;> exact lk rfl
theorem ok_parts (T : Txt K mg) (r : RuleD) : HasM P w K mg base 1 r.cls "parts" ["self"] (partsS r.cls) := by
  cases r
  · exact ok_CellRule_parts T
  · exact ok_BesideRule_parts T
  · exact ok_AboveRule_parts T
  · exact ok_TurnRule_parts T
end

def begunS (n : Str) : Tw.Spec := fun A P _ => ∃ (r : RuleD), A = [vl r] ∧ r.cls = n ∧ r.good = true ∧ P (rv r.begun)
def toldS (n : Str) : Tw.Spec := fun A P _ => ∃ (r : RuleD), A = [vl r] ∧ r.cls = n ∧ r.good = true ∧ P (rv r.told)
section
variable {P : Program} {w : World} {K : PySem.W.Frag} {mg : Str → Option Value} {base : Heap}
theorem ok_begun {n : Str} (hc : OC K mg n) (D : Dm K n "begun" "Rule.begun" s_Rule_begun ["self"]) (a1 : NoA K n "name") (a2 : NoA K n "cost") (hs : mg "str" = none) : HasM P w K mg base 1 n "begun" ["self"] (begunS n) := by
  refine HasM.of D sc_Rule_begun (fun A Q R ⟨r, e, _⟩ => by rw [e]; rfl) fun f cdv A outer s0 H E hr Γ Q R ⟨r, e, hcl, hg, hq⟩ => ?_
  subst e
  obtain ⟨h1, h2, h3⟩ := RuleD.bounds hg
  have hl := strI_len (c := r.cost) (by omega)
  refine st_retV (ev_bin (o_addS (sl_small ?_)) (ev_bin (o_addS (sl_small ?_)) (ev_bin (o_addS (sl_small ?_)) (ev_fld hc a1 hcl r.f_name (ev_var 0)) (ev_str " ")) (ev_strI hs (ev_fld hc a2 hcl r.f_cost (ev_var 0)) (log2_small (by omega)))) (ev_str ": ")) hq
  · show (r.name ++ tx " " ++ strI r.cost).length + 2 ≤ 1000
    simp only [List.length_append]
    rw [hl]
    show r.name.length + 1 + 1 + 2 ≤ 1000
    omega
  · rw [List.length_append, hl]
    show r.name.length + 1 + 1 ≤ 1000
    omega
  · show r.name.length + 1 ≤ 1000
    omega
theorem ok_CellRule_begun (T : Txt K mg) : HasM P w K mg base 1 "CellRule" "begun" ["self"] (begunS "CellRule") := ok_begun T.o_CellRule T.m_CellRule_begun T.a_CellRule_name T.a_CellRule_cost T.b_str
theorem ok_BesideRule_begun (T : Txt K mg) : HasM P w K mg base 1 "BesideRule" "begun" ["self"] (begunS "BesideRule") := ok_begun T.o_BesideRule T.m_BesideRule_begun T.a_BesideRule_name T.a_BesideRule_cost T.b_str
theorem ok_AboveRule_begun (T : Txt K mg) : HasM P w K mg base 1 "AboveRule" "begun" ["self"] (begunS "AboveRule") := ok_begun T.o_AboveRule T.m_AboveRule_begun T.a_AboveRule_name T.a_AboveRule_cost T.b_str
theorem ok_TurnRule_begun (T : Txt K mg) : HasM P w K mg base 1 "TurnRule" "begun" ["self"] (begunS "TurnRule") := ok_begun T.o_TurnRule T.m_TurnRule_begun T.a_TurnRule_name T.a_TurnRule_cost T.b_str
theorem ok_CellRule_told (T : Txt K mg) : HasM P w K mg base 2 "CellRule" "told" ["self"] (toldS "CellRule") := by
  refine HasM.of T.m_CellRule_told sc_CellRule_told (fun A Q R ⟨r, e, _⟩ => by rw [e]; rfl) fun f cdv A outer s0 H E hr Γ Q R ⟨r, e, hcl, hg, hq⟩ => ?_
  subst e
  have hb := RuleD.begun_len hg
  cases r with
  | cell n c s =>
    have hs := signOk_of (Bool.and_eq_true .. ▸ hg : signOk s = true ∧ _).1
    exact st_retV (ev_bin (o_addS (sl_small (by omega))) (ev_meth0 T.o_CellRule (ok_CellRule_begun T) (hr.mono (by decide)) hcl (lk rfl) (ev_var 0) fun P' R' h => ⟨_, rfl, hcl, hg, h⟩) (ev_fld T.o_CellRule T.a_CellRule_sign hcl rfl (ev_var 0))) hq
  | _ => exact absurd hcl (of_decide_eq_false rfl)
theorem ok_BesideRule_told (T : Txt K mg) : HasM P w K mg base 2 "BesideRule" "told" ["self"] (toldS "BesideRule") := by
  refine HasM.of T.m_BesideRule_told sc_BesideRule_told (fun A Q R ⟨r, e, _⟩ => by rw [e]; rfl) fun f cdv A outer s0 H E hr Γ Q R ⟨r, e, hcl, hg, hq⟩ => ?_
  subst e
  have hb := RuleD.begun_len hg
  cases r with
  | beside n c x y =>
    have hn : isName x = true ∧ isName y = true := by
      simp only [RuleD.good, Bool.and_eq_true] at hg
      exact hg.2
    have hx := isName_len hn.1
    have hy := isName_len hn.2
    refine st_retV (ev_bin (o_addS (sl_small ?_)) (ev_bin (o_addS (sl_small ?_)) (ev_bin (o_addS (sl_small (by omega))) (ev_meth0 T.o_BesideRule (ok_BesideRule_begun T) (hr.mono (by decide)) hcl (lk rfl) (ev_var 0) fun P' R' h => ⟨_, rfl, hcl, hg, h⟩) (ev_fld T.o_BesideRule T.a_BesideRule_one hcl rfl (ev_var 0))) (ev_str " | ")) (ev_fld T.o_BesideRule T.a_BesideRule_other hcl rfl (ev_var 0))) hq
    · simp only [List.length_append]
      show _ + _ + 3 + _ ≤ 1000
      omega
    · simp only [List.length_append]
      show _ + _ + 3 ≤ 1000
      omega
  | _ => exact absurd hcl (of_decide_eq_false rfl)
theorem ok_AboveRule_told (T : Txt K mg) : HasM P w K mg base 2 "AboveRule" "told" ["self"] (toldS "AboveRule") := by
  refine HasM.of T.m_AboveRule_told sc_AboveRule_told (fun A Q R ⟨r, e, _⟩ => by rw [e]; rfl) fun f cdv A outer s0 H E hr Γ Q R ⟨r, e, hcl, hg, hq⟩ => ?_
  subst e
  have hb := RuleD.begun_len hg
  cases r with
  | above n c x y =>
    have hn : isName x = true ∧ isName y = true := by
      simp only [RuleD.good, Bool.and_eq_true] at hg
      exact hg.2
    have hx := isName_len hn.1
    have hy := isName_len hn.2
    refine st_retV (ev_bin (o_addS (sl_small ?_)) (ev_bin (o_addS (sl_small ?_)) (ev_bin (o_addS (sl_small (by omega))) (ev_meth0 T.o_AboveRule (ok_AboveRule_begun T) (hr.mono (by decide)) hcl (lk rfl) (ev_var 0) fun P' R' h => ⟨_, rfl, hcl, hg, h⟩) (ev_fld T.o_AboveRule T.a_AboveRule_one hcl rfl (ev_var 0))) (ev_str " / ")) (ev_fld T.o_AboveRule T.a_AboveRule_other hcl rfl (ev_var 0))) hq
    · simp only [List.length_append]
      show _ + _ + 3 + _ ≤ 1000
      omega
    · simp only [List.length_append]
      show _ + _ + 3 ≤ 1000
      omega
  | _ => exact absurd hcl (of_decide_eq_false rfl)
theorem ok_TurnRule_told (T : Txt K mg) : HasM P w K mg base 2 "TurnRule" "told" ["self"] (toldS "TurnRule") := by
  refine HasM.of T.m_TurnRule_told sc_TurnRule_told (fun A Q R ⟨r, e, _⟩ => by rw [e]; rfl) fun f cdv A outer s0 H E hr Γ Q R ⟨r, e, hcl, hg, hq⟩ => ?_
  subst e
  have hb := RuleD.begun_len hg
  cases r with
  | turn n c x t =>
    have hn : (0 ≤ t ∧ t ≤ 7) ∧ isName x = true := by
      simp only [RuleD.good, Bool.and_eq_true, decide_eq_true_eq] at hg
      exact ⟨hg.1, hg.2.2⟩
    have hx := isName_len hn.2
    have ht := strI_len (c := t) (by omega)
    refine st_retV (ev_bin (o_addS (sl_small ?_)) (ev_bin (o_addS (sl_small ?_)) (ev_bin (o_addS (sl_small (by omega))) (ev_meth0 T.o_TurnRule (ok_TurnRule_begun T) (hr.mono (by decide)) hcl (lk rfl) (ev_var 0) fun P' R' h => ⟨_, rfl, hcl, hg, h⟩) (ev_fld T.o_TurnRule T.a_TurnRule_part hcl rfl (ev_var 0))) (ev_str " turned ")) (ev_strI T.b_str (ev_fld T.o_TurnRule T.a_TurnRule_turning hcl rfl (ev_var 0)) (log2_small (by omega)))) hq
    · simp only [List.length_append]
      rw [ht]
      show _ + _ + 8 + 1 ≤ 1000
      omega
    · simp only [List.length_append]
      show _ + _ + 8 ≤ 1000
      omega
  | _ => exact absurd hcl (of_decide_eq_false rfl)
theorem RuleD.f_told (r : RuleD) : r.flds.lookup ("told" : Str) = none := by cases r <;> exact lk rfl
theorem ok_told (T : Txt K mg) (r : RuleD) : HasM P w K mg base 2 r.cls "told" ["self"] (toldS r.cls) := by
  cases r
  · exact ok_CellRule_told T
  · exact ok_BesideRule_told T
  · exact ok_AboveRule_told T
  · exact ok_TurnRule_told T
end

/-! ### draws, mixed by their places -/
def mixI (c k : Int) : Int := c / 2147483647 * 2147483647 + ((c % 2147483647 + 7919 * k + 1) * 48271 % 2147483647 * 69621 + k) % 2147483647
def mixCell (s : List Int) (k : Int) : Int := if k < s.length then mixI (s.getD k.toNat 0) k else mixI 0 k
def mixS : Tw.Spec := fun A P _ => ∃ (c k : Int), A = [vl c, vl k] ∧ P (rv (mixI c k))
def mcellS : Tw.Spec := fun A P _ => ∃ (s : Scr) (k : Int), A = [vl s, vl k] ∧ s.l.length ≤ 63 ∧ 0 ≤ k ∧ P (rv (mixCell s.l k))
section
variable {P : Program} {w : World} {K : PySem.W.Frag} {mg : Str → Option Value} {base : Heap}
theorem mulR {i j : Int} (h1 : -(2 ^ 64) < j := by decide) (h2 : j < 2 ^ 64 := by decide) : CMul i j := .inr ⟨h1, h2⟩
theorem mulL {i j : Int} (h1 : -(2 ^ 64) < i := by decide) (h2 : i < 2 ^ 64 := by decide) : CMul i j := .inl ⟨h1, h2⟩
theorem divK {i j : Int} (h : 0 < j := by decide) (h2 : j.natAbs.log2 < 9000 := by decide) : CDivW i j := ⟨h, h2⟩
theorem ok_law_mix (T : Txt K mg) : Has P w K mg base 1 "_law_mix" ["_law_cell_here", "_law_k"] mixS := by
  refine Has.of T.f_law_mix sc_law_mix (fun A Q R ⟨c, k, e, _⟩ => by rw [e]; rfl) fun f cdv A outer s0 H E hr Γ Q R ⟨c, k, e, hq⟩ => ?_
  subst e
  refine st_set 2 (ev_bin (o_mod (by decide)) (ev_bin (o_mul mulR) (ev_bin o_add (ev_bin o_add (ev_bin (o_mod (by decide)) (ev_var 0) ev_int) (ev_bin (o_mul mulL) ev_int (ev_var 1))) ev_int) ev_int) ev_int) ?_ sc_law_mix.nd
  exact st_retV (ev_bin o_add (ev_bin (o_mul mulR) (ev_bin (o_div divK) (ev_var 0) ev_int) ev_int) (ev_bin (o_mod (by decide)) (ev_bin o_add (ev_bin (o_mul mulR) (ev_var 2) ev_int) (ev_var 1)) ev_int)) hq
theorem ok_law_cell (T : Txt K mg) : Has P w K mg base 2 "_law_cell" ["_law_script", "_law_k"] mcellS := by
  refine Has.of T.f_law_cell sc_law_cell (fun A Q R ⟨s, k, e, _⟩ => by rw [e]; rfl) fun f cdv A outer s0 H E hr Γ Q R ⟨s, k, e, hl, hk, hq⟩ => ?_
  subst e
  unfold mixCell at hq
  refine st_if (et_cmp o_lt (ev_var 1) (ev_lenScr T.b_len (ev_var 0))) (fun h => ?_) (fun h => st_nil ?_)
  · have h1 := of_decide_eq_true h
    have hlt : k.toNat < s.l.length := by omega
    rw [if_pos h1] at hq
    refine st_retV (ev_call (ok_law_mix T) (hr.mono (by decide)) (ea_cons (ev_ixScr (x := s.l.getD k.toNat 0) (ev_var 0) (ev_var 1) ?_) (ea_cons (ev_var 1) ea_nil)) fun P R h => ⟨_, _, rfl, h⟩) hq
    have := atI_nat (xs := s.l) (j := k.toNat) (List.getElem?_eq_getElem hlt)
    rw [show ((k.toNat : Nat) : Int) = k by omega] at this
    rw [this, List.getD_eq_getElem?_getD, List.getElem?_eq_getElem hlt]; rfl
  · have h1 := of_decide_eq_false h
    rw [if_neg h1] at hq
    exact st_retV (ev_call (ok_law_mix T) (hr.mono (by decide)) (ea_cons ev_int (ea_cons (ev_var 1) ea_nil)) fun P R h => ⟨_, _, rfl, h⟩) hq
end

theorem cut_to {A : Type} {xs : List A} {n : Nat} : cutL xs none (some (n : Int)) = xs.take n := by
  unfold cutL
  rw [HT.sIx_nat]
  show (xs.drop 0).take _ = _
  rw [List.drop_zero]
  show xs.take (min n xs.length - 0) = _
  rw [Nat.sub_zero]
  by_cases h : n ≤ xs.length
  · rw [Nat.min_eq_left h]
  · rw [Nat.min_eq_right (by omega), List.take_of_length_le (Nat.le_refl _), List.take_of_length_le (by omega)]
theorem cut_from {A : Type} {xs : List A} {n : Nat} : cutL xs (some (n : Int)) none = xs.drop n := by
  unfold cutL
  rw [HT.sIx_nat]
  show (xs.drop (min n xs.length)).take (xs.length - min n xs.length) = _
  by_cases h : n ≤ xs.length
  · rw [Nat.min_eq_left h, List.take_of_length_le (by rw [List.length_drop]; exact Nat.le_refl _)]
  · rw [Nat.min_eq_right (by omega), List.drop_of_length_le (Nat.le_refl _), List.drop_of_length_le (by omega), List.take_nil]
theorem cutL_len {A : Type} {xs : List A} {a b : Option Int} : (cutL xs a b).length ≤ xs.length := by
  unfold cutL
  rw [List.length_take, List.length_drop]
  omega
theorem cutL_mem {A : Type} {xs : List A} {a b : Option Int} {x : A} (h : x ∈ cutL xs a b) : x ∈ xs := List.mem_of_mem_drop (List.mem_of_mem_take h)

/-! ### names drawn -/
def capI (n : Int) : Nat := 65 + (n % 26).toNat
theorem cap_at : ∀ n, n < 26 → capTx[n]? = some (65 + n) := by decide +kernel
theorem cap_atI (n : Int) : atI capTx (n % 26) = some (capI n) := by
  have h1 := Int.emod_nonneg n (by decide : (26 : Int) ≠ 0)
  have h2 := Int.emod_lt_of_pos n (by decide : (0 : Int) < 26)
  have := atI_nat (cap_at (n % 26).toNat (by omega))
  rw [show (((n % 26).toNat : Nat) : Int) = n % 26 by omega] at this
  exact this
theorem capI_mem (n : Int) : capI n ∈ capTx := by
  have h1 := Int.emod_nonneg n (by decide : (26 : Int) ≠ 0)
  have h2 := Int.emod_lt_of_pos n (by decide : (0 : Int) < 26)
  exact List.mem_of_getElem? (cap_at (n % 26).toNat (by omega))
def poolBase (c : Int) : Tx := ([capI (c / 4), capI (c / 104), capI (c / 2704)] : Tx).take (c % 4).toNat
def poolAt (c : Int) : Nat := (c / 70304 % (c % 4 + 1)).toNat
def poolOne (c k : Int) : Tx := (poolBase c).take (poolAt c) ++ [capI (c / 7 + k * (1 + 2 * (c / 281216 % 6)))] ++ (poolBase c).drop (poolAt c)
def lawPool (c : Int) (many : Nat) : List Tx := (rng 0 many).map (poolOne (c % 10 ^ 12))
theorem poolOne_name (c k : Int) : isName (poolOne c k) = true := by
  have hb : (poolBase c).length ≤ 3 := by unfold poolBase; rw [List.length_take]; exact Nat.min_le_right ..
  have hm : ∀ x ∈ poolBase c, x ∈ capTx := fun x hx => by
    have := List.mem_of_mem_take hx
    simp only [List.mem_cons, List.not_mem_nil, or_false] at this
    rcases this with rfl | rfl | rfl <;> exact capI_mem _
  have hl : (poolOne c k).length = (poolBase c).length + 1 := by
    unfold poolOne
    simp only [List.length_append, List.length_take, List.length_drop, List.length_singleton]
    omega
  unfold isName
  rw [decide_eq_true (by omega), decide_eq_true (by omega), Bool.true_and, Bool.true_and, List.all_eq_true]
  intro x hx
  refine decide_eq_true ?_
  unfold poolOne at hx
  rcases List.mem_append.mp hx with hx | hx
  · rcases List.mem_append.mp hx with hx | hx
    · exact hm x (List.mem_of_mem_take hx)
    · rw [List.mem_singleton.mp hx]; exact capI_mem _
  · exact hm x (List.mem_of_mem_drop hx)
def poolS : Tw.Spec := fun A P _ => ∃ (c : Int) (many : Nat), A = [vl c, vl (many : Int)] ∧ many ≤ 100 ∧ P (rn (lawPool c many))
section
variable {P : Program} {w : World} {K : PySem.W.Frag} {mg : Str → Option Value} {base : Heap}
theorem ok_law_pool (T : Txt K mg) : Has P w K mg base 1 "_law_pool" ["_law_cell_here", "_law_many"] poolS := by
  refine Has.of T.f_law_pool sc_law_pool (fun A Q R ⟨c, m, e, _⟩ => by rw [e]; rfl) fun f cdv A outer s0 H E hr Γ Q R ⟨c0, m, e, hm, hq⟩ => ?_
  subst e
  unfold lawPool at hq
  refine st_set 2 (ev_str _) ?_ sc_law_pool.nd
  refine st_set 0 (ev_bin (o_mod (by decide)) (ev_var 0) (ev_pow ⟨by decide, by decide, by decide⟩ ev_int ev_int)) ?_ sc_law_pool.nd
  rw [show (10 : Int) ^ (12 : Int).toNat = 10 ^ 12 from rfl]
  generalize c0 % 10 ^ 12 = c at hq ⊢
  have h4 : 0 ≤ c % 4 ∧ c % 4 < 4 := ⟨Int.emod_nonneg _ (by decide), Int.emod_lt_of_pos _ (by decide)⟩
  refine st_set 3 (ev_bin (o_mod (by decide)) (ev_var 0) ev_int) ?_ sc_law_pool.nd
  refine st_set 4 (ev_bin (o_addS (x := [capI (c / 4)]) (y := [capI (c / 104)]) (sl_small (by simp))) (ev_ixS (x := capTx) (ev_var 2) (ev_bin (o_mod (by decide)) (ev_bin (o_div divK) (ev_var 0) ev_int) ev_int) (cap_atI _) (by decide +kernel)) (ev_ixS (x := capTx) (ev_var 2) (ev_bin (o_mod (by decide)) (ev_bin (o_div divK) (ev_var 0) ev_int) ev_int) (cap_atI _) (by decide +kernel))) ?_ sc_law_pool.nd
  refine st_set 4 (ev_bin (o_addS (x := [capI (c / 4)] ++ [capI (c / 104)]) (y := [capI (c / 2704)]) (sl_small (by simp))) (ev_var 4) (ev_ixS (x := capTx) (ev_var 2) (ev_bin (o_mod (by decide)) (ev_bin (o_div divK) (ev_var 0) ev_int) ev_int) (cap_atI _) (by decide +kernel))) ?_ sc_law_pool.nd
  refine st_set 4 (ev_eq (y := poolBase c) (ev_sliceS (o1 := none) (o2 := some (((c % 4).toNat : Nat) : Int)) (ev_var 4) trivial (ev_eq (ev_var 3) (by omega)) (sl_small (by simp))) cut_to) ?_ sc_law_pool.nd
  have hb : (poolBase c).length ≤ 3 := by unfold poolBase; rw [List.length_take]; exact Nat.min_le_right ..
  have ha := Int.emod_nonneg (c / 70304) (by omega : c % 4 + 1 ≠ 0)
  refine st_set 5 (ev_eq (y := ((poolAt c : Nat) : Int)) (ev_bin (o_mod (y := c % 4 + 1) (by omega)) (ev_bin (o_div divK) (ev_var 0) ev_int) (ev_bin o_add (ev_var 3) ev_int)) (by unfold poolAt; omega)) ?_ sc_law_pool.nd
  have hst : 0 ≤ c / 281216 % 6 ∧ c / 281216 % 6 < 6 := ⟨Int.emod_nonneg _ (by decide), Int.emod_lt_of_pos _ (by decide)⟩
  refine st_set 6 (ev_bin o_add ev_int (ev_bin (o_mul mulL) ev_int (ev_bin (o_mod (by decide)) (ev_bin (o_div divK) (ev_var 0) ev_int) ev_int))) ?_ sc_law_pool.nd
  refine st_retE (en_lc (xs := rng 0 m) (α := Int) (β := Tx) (own := [("_law_k", 7)]) (f := poolOne c) (src_range (n := (m : Int)) T.b_range (ev_var 1) (by omega) (by omega)) (tg_name 7) (fun _ _ _ _ _ => pgn 7 sc_law_pool.nd)
    (fun x hx _ _ _ _ _ => ?_) sc_law_pool.nd (ok := bk_law_pool (by decide +kernel)) (hz := by rw [rng_len]; exact sl_small (by omega))) hq
  refine ev_bin (o_addS (x := (poolBase c).take (poolAt c) ++ [capI (c / 7 + x * (1 + 2 * (c / 281216 % 6)))]) (y := (poolBase c).drop (poolAt c)) (sl_small ?_)) (ev_bin (o_addS (x := (poolBase c).take (poolAt c)) (y := [capI (c / 7 + x * (1 + 2 * (c / 281216 % 6)))]) (sl_small ?_)) (ev_eq (ev_sliceS (o1 := none) (o2 := some ((poolAt c : Nat) : Int)) (ev_var 4) trivial (ev_var 5) (sl_small (by omega))) cut_to)
    (ev_ixS (x := capTx) (ev_var 2) (ev_bin (o_mod (by decide)) (ev_bin o_add (ev_bin (o_div divK) (ev_var 0) ev_int) (ev_bin (o_mul (x := x) (y := 1 + 2 * (c / 281216 % 6)) (.inr (by omega))) (ev_var 7) (ev_var 6))) ev_int) (cap_atI _) (by decide +kernel))) (ev_eq (ev_sliceS (o1 := some ((poolAt c : Nat) : Int)) (o2 := none) (ev_var 4) (ev_var 5) trivial (sl_small (by omega))) cut_from)
  · simp only [List.length_append, List.length_take, List.length_drop, List.length_singleton]; omega
  · simp only [List.length_take, List.length_singleton]; omega
end

theorem list_atI {A : Type} {xs : List A} {n : Int} (h : 0 ≤ n) (h2 : n < xs.length) : ∃ x, atI xs n = some x ∧ x ∈ xs := by
  have hlt : n.toNat < xs.length := by omega
  refine ⟨xs[n.toNat], ?_, List.getElem_mem _⟩
  have := atI_nat (xs := xs) (j := n.toNat) (List.getElem?_eq_getElem hlt)
  rwa [show ((n.toNat : Nat) : Int) = n by omega] at this

/-! ### signs drawn, one to four small letters -/
def smStep (c : Int) : Int := 1 + 2 * (c / 26 % 6)
def smSigns (c : Int) : Tx := (rng 0 (1 + c / 156 % 4).toNat).map fun k => 97 + ((c + k * smStep c) % 26).toNat
theorem abc_at : ∀ n, n < 26 → smallTx[n]? = some (97 + n) := by decide +kernel
theorem smSigns_len {c : Int} : 1 ≤ (smSigns c).length ∧ (smSigns c).length ≤ 4 := by
  have h1 := Int.emod_nonneg (c / 156) (by decide : (4 : Int) ≠ 0)
  have h2 := Int.emod_lt_of_pos (c / 156) (by decide : (0 : Int) < 4)
  unfold smSigns
  rw [List.length_map, rng_len]
  omega
theorem smSigns_in {c : Int} : ∀ x ∈ smSigns c, x ∈ smallTx := fun x hx => by
  unfold smSigns at hx
  obtain ⟨k, _, rfl⟩ := List.mem_map.mp hx
  have h1 := Int.emod_nonneg (c + k * smStep c) (by decide : (26 : Int) ≠ 0)
  have h2 := Int.emod_lt_of_pos (c + k * smStep c) (by decide : (0 : Int) < 26)
  exact List.mem_of_getElem? (abc_at _ (by omega))
theorem small_ok' : ∀ x ∈ smallTx, x < 128 := by decide +kernel
theorem smSigns_ok {c : Int} : TxOk (smSigns c) := fun x hx => by
  have := small_ok' x (smSigns_in x hx)
  omega
def smSignsS : Tw.Spec := fun A P _ => ∃ (c : Int), A = [vl c] ∧ P (rv (smSigns c))
section
variable {P : Program} {w : World} {K : PySem.W.Frag} {mg : Str → Option Value} {base : Heap}
theorem ok_law_signs (T : Txt K mg) : Has P w K mg base 1 "_law_signs" ["_law_cell_here"] smSignsS := by
  refine Has.of T.f_law_signs sc_law_signs (fun A Q R ⟨c, e, _⟩ => by rw [e]; rfl) fun f cdv A outer s0 H E hr Γ Q R ⟨c, e, hq⟩ => ?_
  subst e
  have h1 := Int.emod_nonneg (c / 156) (by decide : (4 : Int) ≠ 0)
  have h2 := Int.emod_lt_of_pos (c / 156) (by decide : (0 : Int) < 4)
  have h3 := Int.emod_nonneg (c / 26) (by decide : (6 : Int) ≠ 0)
  have h4 := Int.emod_lt_of_pos (c / 26) (by decide : (0 : Int) < 6)
  have hst : 0 ≤ smStep c ∧ smStep c < 100 := by unfold smStep; omega
  refine st_set 1 (ev_str _) ?_ sc_law_signs.nd
  refine st_set 2 (x := smStep c) (ev_bin o_add ev_int (ev_bin (o_mul mulL) ev_int (ev_bin (o_mod (by decide)) (ev_bin (o_div divK) (ev_var 0) ev_int) ev_int))) ?_ sc_law_signs.nd
  refine st_retV (ev_join (ev_str "") (ev_of_en (en_lc (α := Int) (β := Tx) (own := [("_law_k", 3)]) (f := fun k => [97 + ((c + k * smStep c) % 26).toNat]) (src_range T.b_range (ev_bin o_add ev_int (ev_bin (o_mod (by decide)) (ev_bin (o_div divK) (ev_var 0) ev_int) ev_int)) (by omega) (by omega)) (tg_name 3) (fun _ _ _ _ _ => pgn 3 sc_law_signs.nd)
    (fun x hx _ _ _ _ _ => ev_ixS (x := smallTx) (ev_var 1) (ev_bin (o_mod (by decide)) (ev_bin o_add (ev_var 0) (ev_bin (o_mul (x := x) (y := smStep c) (.inr (by omega))) (ev_var 3) (ev_var 2))) ev_int) ?_ (by decide +kernel)) sc_law_signs.nd (ok := bk_law_signs (by decide +kernel)) (hz := ?_))) ?_) ?_
  · have h1 := Int.emod_nonneg (c + x * smStep c) (by decide : (26 : Int) ≠ 0)
    have h2 := Int.emod_lt_of_pos (c + x * smStep c) (by decide : (0 : Int) < 26)
    have := atI_nat (abc_at ((c + x * smStep c) % 26).toNat (by omega))
    rwa [show ((((c + x * smStep c) % 26).toNat : Nat) : Int) = (c + x * smStep c) % 26 by omega] at this
  · rw [rng_len]; exact sl_small (by omega)
  · show _ + _ * 0 ≤ _
    rw [sum_ones, rng_len]; omega
  · have e : joinL (tx "") ((rng 0 (1 + c / 156 % 4).toNat).map fun k => ([97 + ((c + k * smStep c) % 26).toNat] : Tx)) = smSigns c := by
      show joinL [] _ = _
      rw [joinOnes]
      rfl
    rw [e]
    exact hq
end

/-! ### rules with other names, and of turned grammars -/
def RuleD.renamed (g : Tx → Tx) : RuleD → RuleD
  | .cell n c s => .cell (g n) c s
  | .beside n c a b => .beside (g n) c (g a) (g b)
  | .above n c a b => .above (g n) c (g a) (g b)
  | .turn n c a t => .turn (g n) c (g a) t
def nmOf (l : List (Tx × Tx)) (x : Tx) : Tx := (look l x).getD x
theorem nmOf_len {l : List (Tx × Tx)} {x : Tx} (h : ∀ p ∈ l, p.2.length ≤ 1000) (hx : x.length ≤ 1000) : (nmOf l x).length ≤ 1000 := by
  unfold nmOf
  cases e : look l x with
  | none => exact hx
  | some y => exact h _ (look_mem e)
def renamedS (n : Str) : Tw.Spec := fun A P R => ∃ (r : RuleD) (l : List (Tx × Tx)), A = [vl r, vl (Dic.mk l)] ∧ r.cls = n ∧ r.good = true ∧ (∀ p ∈ l, p.2.length ≤ 1000) ∧ ((r.renamed (nmOf l)).good = true → P (rv (r.renamed (nmOf l)))) ∧ ((r.renamed (nmOf l)).good = false → R NoRule)
section
variable {P : Program} {w : World} {K : PySem.W.Frag} {mg : Str → Option Value} {base : Heap}
theorem ok_CellRule_renamed (T : Txt K mg) : HasM P w K mg base 6 "CellRule" "renamed" ["self", "names"] (renamedS "CellRule") := by
  refine HasM.of T.m_CellRule_renamed sc_CellRule_renamed (fun A Q R ⟨r, l, e, _⟩ => by rw [e]; rfl) fun f cdv A outer s0 H E hr Γ Q R ⟨r, l, e, hcl, hg, hv, h1, h2⟩ => ?_
  subst e
  have hs := RuleD.good_short hg
  cases r with
  | cell n c s => exact st_retX (mkx_cell T hr (ea_cons (x := nmOf l n) (ev_dget2 hr (ev_var 1) (ev_fld T.o_CellRule T.a_CellRule_name hcl rfl (ev_var 0)) (ev_fld T.o_CellRule T.a_CellRule_name hcl rfl (ev_var 0))) (ea_cons (ev_fld T.o_CellRule T.a_CellRule_cost hcl rfl (ev_var 0)) (ea_cons (ev_fld T.o_CellRule T.a_CellRule_sign hcl rfl (ev_var 0)) ea_nil))) (nmOf_len hv hs.1) hs.2) (fun r ⟨e, g⟩ => e ▸ h1 g) (fun y ⟨e, g⟩ => e ▸ h2 g)
  | _ => exact absurd hcl (of_decide_eq_false rfl)
theorem ok_BesideRule_renamed (T : Txt K mg) : HasM P w K mg base 6 "BesideRule" "renamed" ["self", "names"] (renamedS "BesideRule") := by
  refine HasM.of T.m_BesideRule_renamed sc_BesideRule_renamed (fun A Q R ⟨r, l, e, _⟩ => by rw [e]; rfl) fun f cdv A outer s0 H E hr Γ Q R ⟨r, l, e, hcl, hg, hv, h1, h2⟩ => ?_
  subst e
  have hs := RuleD.good_short hg
  cases r with
  | beside n c a b =>
    refine st_set 2 (x := nmOf l n) (ev_dget2 hr (ev_var 1) (ev_fld T.o_BesideRule T.a_BesideRule_name hcl rfl (ev_var 0)) (ev_fld T.o_BesideRule T.a_BesideRule_name hcl rfl (ev_var 0))) ?_ sc_BesideRule_renamed.nd
    exact st_retX (mkx_beside T hr (ea_cons (ev_var 2) (ea_cons (ev_fld T.o_BesideRule T.a_BesideRule_cost hcl rfl (ev_var 0)) (ea_cons (x := nmOf l a) (ev_dget2 hr (ev_var 1) (ev_fld T.o_BesideRule T.a_BesideRule_one hcl rfl (ev_var 0)) (ev_fld T.o_BesideRule T.a_BesideRule_one hcl rfl (ev_var 0))) (ea_cons (x := nmOf l b) (ev_dget2 hr (ev_var 1) (ev_fld T.o_BesideRule T.a_BesideRule_other hcl rfl (ev_var 0)) (ev_fld T.o_BesideRule T.a_BesideRule_other hcl rfl (ev_var 0))) ea_nil)))) (nmOf_len hv hs.1) (nmOf_len hv hs.2.1) (nmOf_len hv hs.2.2)) (fun r ⟨e, g⟩ => e ▸ h1 g) (fun y ⟨e, g⟩ => e ▸ h2 g)
  | _ => exact absurd hcl (of_decide_eq_false rfl)
theorem ok_AboveRule_renamed (T : Txt K mg) : HasM P w K mg base 6 "AboveRule" "renamed" ["self", "names"] (renamedS "AboveRule") := by
  refine HasM.of T.m_AboveRule_renamed sc_AboveRule_renamed (fun A Q R ⟨r, l, e, _⟩ => by rw [e]; rfl) fun f cdv A outer s0 H E hr Γ Q R ⟨r, l, e, hcl, hg, hv, h1, h2⟩ => ?_
  subst e
  have hs := RuleD.good_short hg
  cases r with
  | above n c a b =>
    refine st_set 2 (x := nmOf l n) (ev_dget2 hr (ev_var 1) (ev_fld T.o_AboveRule T.a_AboveRule_name hcl rfl (ev_var 0)) (ev_fld T.o_AboveRule T.a_AboveRule_name hcl rfl (ev_var 0))) ?_ sc_AboveRule_renamed.nd
    exact st_retX (mkx_above T hr (ea_cons (ev_var 2) (ea_cons (ev_fld T.o_AboveRule T.a_AboveRule_cost hcl rfl (ev_var 0)) (ea_cons (x := nmOf l a) (ev_dget2 hr (ev_var 1) (ev_fld T.o_AboveRule T.a_AboveRule_one hcl rfl (ev_var 0)) (ev_fld T.o_AboveRule T.a_AboveRule_one hcl rfl (ev_var 0))) (ea_cons (x := nmOf l b) (ev_dget2 hr (ev_var 1) (ev_fld T.o_AboveRule T.a_AboveRule_other hcl rfl (ev_var 0)) (ev_fld T.o_AboveRule T.a_AboveRule_other hcl rfl (ev_var 0))) ea_nil)))) (nmOf_len hv hs.1) (nmOf_len hv hs.2.1) (nmOf_len hv hs.2.2)) (fun r ⟨e, g⟩ => e ▸ h1 g) (fun y ⟨e, g⟩ => e ▸ h2 g)
  | _ => exact absurd hcl (of_decide_eq_false rfl)
theorem ok_TurnRule_renamed (T : Txt K mg) : HasM P w K mg base 6 "TurnRule" "renamed" ["self", "names"] (renamedS "TurnRule") := by
  refine HasM.of T.m_TurnRule_renamed sc_TurnRule_renamed (fun A Q R ⟨r, l, e, _⟩ => by rw [e]; rfl) fun f cdv A outer s0 H E hr Γ Q R ⟨r, l, e, hcl, hg, hv, h1, h2⟩ => ?_
  subst e
  have hs := RuleD.good_short hg
  cases r with
  | turn n c a t =>
    refine st_set 2 (x := nmOf l a) (ev_dget2 hr (ev_var 1) (ev_fld T.o_TurnRule T.a_TurnRule_part hcl rfl (ev_var 0)) (ev_fld T.o_TurnRule T.a_TurnRule_part hcl rfl (ev_var 0))) ?_ sc_TurnRule_renamed.nd
    exact st_retX (mkx_turn T hr (ea_cons (x := nmOf l n) (ev_dget2 hr (ev_var 1) (ev_fld T.o_TurnRule T.a_TurnRule_name hcl rfl (ev_var 0)) (ev_fld T.o_TurnRule T.a_TurnRule_name hcl rfl (ev_var 0))) (ea_cons (ev_fld T.o_TurnRule T.a_TurnRule_cost hcl rfl (ev_var 0)) (ea_cons (ev_var 2) (ea_cons (ev_fld T.o_TurnRule T.a_TurnRule_turning hcl rfl (ev_var 0)) ea_nil)))) (nmOf_len hv hs.1) (nmOf_len hv hs.2)) (fun r ⟨e, g⟩ => e ▸ h1 g) (fun y ⟨e, g⟩ => e ▸ h2 g)
  | _ => exact absurd hcl (of_decide_eq_false rfl)
theorem RuleD.f_renamed (r : RuleD) : r.flds.lookup ("renamed" : Str) = none := by cases r <;> exact lk rfl
theorem ok_renamed (T : Txt K mg) (r : RuleD) : HasM P w K mg base 6 r.cls "renamed" ["self", "names"] (renamedS r.cls) := by
  cases r
  · exact ok_CellRule_renamed T
  · exact ok_BesideRule_renamed T
  · exact ok_AboveRule_renamed T
  · exact ok_TurnRule_renamed T
end

/-! ### grammars -/
structure GramD where
  signs : Tx
  start : Tx
  rules : List RuleD
  names : List Tx
def GramD.flds (g : GramD) : List (Str × Slot) := [("signs", vl g.signs), ("start", vl g.start), ("kept_rules", vl g.rules), ("kept_names", vl g.names)]
instance : Inst GramD := ⟨fun _ => "Grammar", GramD.flds⟩
def signsOk (x : Tx) : Bool := (decide (1 ≤ x.length) && decide (x.length ≤ 4)) && (decide x.Nodup && x.all fun c => decide (c ∈ smallTx))
theorem signsOk_len {x : Tx} (h : signsOk x = true) : 1 ≤ x.length ∧ x.length ≤ 4 := by
  unfold signsOk at h
  simp only [Bool.and_eq_true, decide_eq_true_eq] at h
  exact h.1
def addNew (met : List Tx) (n : Tx) : List Tx := if n ∈ met then met else met ++ [n]
def metR (met : List Tx) (r : RuleD) : List Tx := (r.name :: r.parts).foldl addNew met
def metL (start : Tx) (rs : List RuleD) : List Tx := rs.foldl metR [start]
theorem addNew_len (met : List Tx) (n : Tx) : (addNew met n).length ≤ met.length + 1 := by
  unfold addNew
  split
  · omega
  · rw [List.length_append]; exact Nat.le_refl _
theorem addAll_len : ∀ (ns met : List Tx), (ns.foldl addNew met).length ≤ met.length + ns.length
  | [], met => Nat.le_refl _
  | n :: ns, met => by
    have h1 := addAll_len ns (addNew met n)
    have h2 := addNew_len met n
    rw [List.foldl_cons, List.length_cons]
    omega
theorem RuleD.parts_len (r : RuleD) : r.parts.length ≤ 2 := by cases r <;> simp [RuleD.parts]
theorem metR_len (met : List Tx) (r : RuleD) : (metR met r).length ≤ met.length + 3 := by
  have h := addAll_len (r.name :: r.parts) met
  have := r.parts_len
  rw [List.length_cons] at h
  unfold metR
  omega
theorem metAll_len : ∀ (rs : List RuleD) (met : List Tx), (rs.foldl metR met).length ≤ met.length + 3 * rs.length
  | [], met => by simp
  | r :: rs, met => by
    have h1 := metAll_len rs (metR met r)
    have h2 := metR_len met r
    rw [List.foldl_cons, List.length_cons]
    omega
theorem metL_len (start : Tx) (rs : List RuleD) : (metL start rs).length ≤ 1 + 3 * rs.length := metAll_len rs [start]
theorem metL_take {start : Tx} {rs : List RuleD} {k : Nat} {r : RuleD} (h : rs[k]? = some r) : metL start (rs.take (k + 1)) = metR (metL start (rs.take k)) r := by
  unfold metL
  rw [List.take_add_one, h, List.foldl_append]
  rfl
theorem fold_take {ns met : List Tx} {k : Nat} {n : Tx} (h : ns[k]? = some n) : (ns.take (k + 1)).foldl addNew met = addNew ((ns.take k).foldl addNew met) n := by
  rw [List.take_add_one, h, List.foldl_append]
  rfl
theorem addNew_mem {met : List Tx} {n x : Tx} : x ∈ addNew met n ↔ x ∈ met ∨ x = n := by
  unfold addNew
  split
  · rename_i h
    exact ⟨.inl, fun z => z.elim id fun e => e ▸ h⟩
  · rw [List.mem_append, List.mem_singleton]
theorem addAll_mem {x : Tx} : ∀ {ns met : List Tx}, x ∈ ns.foldl addNew met ↔ x ∈ met ∨ x ∈ ns
  | [], met => by simp
  | n :: ns, met => by
    rw [List.foldl_cons, addAll_mem, addNew_mem, List.mem_cons]
    exact ⟨fun h => h.elim (fun h => h.elim .inl fun e => .inr (.inl e)) fun h => .inr (.inr h), fun h => h.elim (fun h => .inl (.inl h)) fun h => h.elim (fun e => .inl (.inr e)) .inr⟩
theorem metAll_mem {x : Tx} : ∀ {rs : List RuleD} {met : List Tx}, x ∈ rs.foldl metR met ↔ x ∈ met ∨ ∃ r ∈ rs, x ∈ r.name :: r.parts
  | [], met => by simp
  | r :: rs, met => by
    rw [List.foldl_cons, metAll_mem]
    unfold metR
    rw [addAll_mem]
    constructor
    · rintro ((h | h) | ⟨q, hq, h⟩)
      · exact .inl h
      · exact .inr ⟨r, List.mem_cons_self .., h⟩
      · exact .inr ⟨q, List.mem_cons_of_mem _ hq, h⟩
    · rintro (h | ⟨q, hq, h⟩)
      · exact .inl (.inl h)
      · rcases List.mem_cons.mp hq with rfl | hq
        · exact .inl (.inr h)
        · exact .inr ⟨q, hq, h⟩
def RuleD.signIn (signs : Tx) : RuleD → Bool
  | .cell _ _ s => decide (s.headD 0 ∈ signs)
  | _ => true
def badSign (signs : Tx) : Nat → List RuleD → Option Nat
  | _, [] => none
  | k, r :: rs => if r.signIn signs then badSign signs (k + 1) rs else some k
def whyRules (signs : Tx) (rs : List RuleD) : Option Why := if 24 < rs.length then some ⟨tx "rules", [(rs.length : Int)]⟩ else (badSign signs 0 rs).map fun (k : Nat) => ⟨tx "sign", [(k : Int)]⟩
def whyG (signs start : Tx) (rs : List RuleD) : Option Why :=
  if signsOk signs = false then some ⟨tx "signs", []⟩ else
  if isName start = false then some ⟨tx "start", []⟩ else
  match whyRules signs rs with
  | some y => some y
  | none => if 8 < (metL start rs).length then some ⟨tx "names", [((metL start rs).length : Int)]⟩ else none
def NoGram (y : Why) : Exn := ⟨"NoGrammar", "why", vl y⟩
def NoNameX : Exn := ⟨"NoName", "", .no⟩
def mkG (signs start : Tx) (rs : List RuleD) : GramD := ⟨signs, start, rs, metL start rs⟩
def numbersL (n : Tx) (rs : List RuleD) : List Int := ((enumL rs).filter fun x => decide (x.2.name = n)).map (·.1)
def GramD.told (g : GramD) : Tx := joinL (tx "\n") ([tx "signs " ++ g.signs, tx "start " ++ g.start] ++ g.rules.map RuleD.told)
structure GramD.Ok (g : GramD) : Prop where
  sg : signsOk g.signs = true
  st : isName g.start = true
  rs : ∀ r ∈ g.rules, r.good = true
  many : g.rules.length ≤ 24
  nm : g.names = metL g.start g.rules
  n8 : g.names.length ≤ 8
theorem mkG_ok {signs start : Tx} {rs : List RuleD} (hg : ∀ r ∈ rs, r.good = true) (h : whyG signs start rs = none) : (mkG signs start rs).Ok := by
  unfold whyG at h
  split at h
  · cases h
  split at h
  · cases h
  rename_i h1 h2
  cases hw : whyRules signs rs with
  | some y => rw [hw] at h; cases h
  | none =>
    rw [hw] at h
    have h : (if 8 < (metL start rs).length then some (⟨tx "names", [((metL start rs).length : Int)]⟩ : Why) else none) = none := h
    split at h
    · cases h
    rename_i h3
    unfold whyRules at hw
    split at hw
    · cases hw
    rename_i h4
    exact ⟨(by cases q : signsOk signs with
      | true => exact q
      | false => exact absurd q h1), (by cases q : isName start with
      | true => exact q
      | false => exact absurd q h2), hg, by show rs.length ≤ 24; omega, rfl, by show (metL start rs).length ≤ 8; omega⟩
def signsS : Tw.Spec := fun A P _ => ∃ (x : Tx), A = [vl x] ∧ x.length ≤ 1000 ∧ P (rv (signsOk x))
def metS : Tw.Spec := fun A P _ => ∃ (start : Tx) (rs : List RuleD), A = [vl start, vl rs] ∧ rs.length ≤ 100 ∧ P (rn (metL start rs))
def askedRS : Tw.Spec := fun A P R => ∃ (signs : Tx) (rs : List RuleD), A = [vl signs, vl rs] ∧ (∀ r ∈ rs, r.good = true) ∧ (whyRules signs rs = none → P (rv ())) ∧ (∀ y, whyRules signs rs = some y → R (NoGram y))
def gramS (K : PySem.W.Frag) : Tw.Spec := fun A P R => ∃ (C a dx : Addr) (signs start : Tx) (rs : List RuleD), A = [.own (ownI C a dx []), vl signs, vl start, vl rs] ∧ PySem.W.nsIn K mainGlobals "Grammar" = some (some (.ref C)) ∧ signs.length ≤ 1000 ∧ start.length ≤ 1000 ∧ rs.length ≤ 1000 ∧ (∀ r ∈ rs, r.good = true) ∧
  (whyG signs start rs = none → P (.chg repUnit () [ownI C a dx (mkG signs start rs).flds])) ∧ (∀ y, whyG signs start rs = some y → R (NoGram y))
def gramOS (K : PySem.W.Frag) : Tw.Spec := fun A P _ => ∃ (C a dx ad : Addr) (signs start : Tx) (rs : List RuleD), A = [.own (ownI C a dx []), vl signs, vl start, .lst repInst ad rs] ∧ PySem.W.nsIn K mainGlobals "Grammar" = some (some (.ref C)) ∧ signs.length ≤ 1000 ∧ start.length ≤ 1000 ∧ rs.length ≤ 1000 ∧ (∀ r ∈ rs, r.good = true) ∧
  whyG signs start rs = none ∧ P (.chg repUnit () [ownI C a dx (mkG signs start rs).flds, ownL repInst ad rs])
section
variable {P : Program} {w : World} {K : PySem.W.Frag} {mg : Str → Option Value} {base : Heap}
theorem ok_are_signs (T : Txt K mg) : Has P w K mg base 1 "are_signs" ["text"] signsS := by
  refine Has.of T.f_are_signs sc_are_signs (fun A Q R ⟨x, e, _⟩ => by rw [e]; rfl) fun f cdv A outer s0 H E hr Γ Q R ⟨x, e, hl, hq⟩ => ?_
  subst e
  refine st_if (et_or3 (et_cmp o_lt (ev_lenS T.b_len (ev_var 0) (sl_small (by omega))) ev_int) (fun _ => et_cmp o_gt (ev_lenS T.b_len (ev_var 0) (sl_small (by omega))) (ev_gintE T.c_MOST_SIGNS)) (fun _ _ => et_cmp o_ne (ev_lenSet T.b_len T.b_set (ev_var 0) (by omega)) (ev_lenS T.b_len (ev_var 0) (sl_small (by omega))))) (fun h => ?_) (fun h => st_nil ?_)
  · have hb : signsOk x = false := by
      cases hs : signsOk x with
      | false => rfl
      | true =>
        unfold signsOk at hs
        simp only [Bool.or_eq_true, decide_eq_true_eq, Bool.and_eq_true, Bool.not_eq_true', decide_eq_false_iff_not] at h hs
        have := (unlike_nodup x).mpr hs.2.1
        omega
    rw [hb] at hq
    exact st_retV ev_bl hq
  · simp only [Bool.or_eq_false_iff, decide_eq_false_iff_not, Bool.not_eq_false', decide_eq_true_eq] at h
    have hu : x.Nodup := (unlike_nodup x).mp (by omega)
    refine st_retV (ev_eq (y := signsOk x) (ev_all T.b_all (ev_of_en (en_lc (α := Tx) (β := Bool) (own := [("sign", 1)]) (f := fun y => decide (y.headD 0 ∈ smallTx)) (src_str (ev_var 0)) (tg_name 1) (fun _ _ _ _ _ => pgn 1 sc_are_signs.nd)
      (fun y hy _ _ _ _ _ => ?_) sc_are_signs.nd (ok := bk_are_signs (by decide +kernel)) (hz := by rw [List.length_map]; exact sl_small (by omega))))) ?_) hq
    · obtain ⟨c, _, rfl⟩ := List.mem_map.mp hy
      exact ev_cmp o_inS (ev_var 1) (ev_gstrE T.c_SMALL)
    · unfold signsOk
      rw [List.map_map, List.all_map, decide_eq_true (by omega : 1 ≤ x.length), decide_eq_true (by omega : x.length ≤ 4), decide_eq_true hu, Bool.true_and, Bool.true_and, Bool.true_and]
      rfl
theorem ok_names_met (T : Txt K mg) : Has P w K mg base 2 "names_met" ["start", "rules"] metS := by
  refine Has.of T.f_names_met sc_names_met (fun A Q R ⟨x, rs, e, _⟩ => by rw [e]; rfl) fun f cdv A outer s0 H E hr Γ Q R ⟨st0, rs, e, hl, hq⟩ => ?_
  subst e
  refine st_setN 2 (en_lst (es_cons (ev_var 0) es_nil)) (fun ad => ?_) sc_names_met.nd
  refine st_for (fun k Γ => Le Γ [vl st0, vl rs, .lst repTx ad (metL st0 (rs.take k)), .no, .no]) (src_list (ev_var 1)) (tg_name 3) Le.refl (fun k r Γ' hk hP => ?_) (fun Γ' hP => ?_) (pgn 3 sc_names_met.nd)
  · have hlen : (metL st0 (rs.take k)).length ≤ 301 := by
      have := metL_len st0 (rs.take k)
      rw [List.length_take] at this
      omega
    rw [metL_take hk]
    refine st_le (Le.set hP 3 _) ?_
    generalize metL st0 (rs.take k) = met at hlen
    refine st_for (fun m Γ => Le Γ [vl st0, vl rs, .lst repTx ad (((r.name :: r.parts).take m).foldl addNew met), vl r, .no]) (src_list (xs := r.name :: r.parts) (ev_of_en (en_addL (xs := [r.name]) (ys := r.parts) (ev_of_en (en_lst (es_cons (ev_fld (o_cls T r) (a_name T r) rfl (RuleD.f_name _) (ev_var 3)) es_nil))) (ev_of_en (en_meth0 (o_cls T r) (ok_parts T r) (hr.mono (by decide)) rfl (RuleD.f_parts _) (ev_var 3) fun P' R' h => ⟨_, rfl, rfl, h⟩)) (sl_small (by have := r.parts_len; simp only [List.length_cons, List.length_nil]; omega))))) (tg_name 4) Le.refl (fun m n Γ2 hm hP2 => ?_) (fun Γ2 hP2 => ?_) (pgn 4 sc_names_met.nd)
    · rw [fold_take hm]
      have hl2 : (((r.name :: r.parts).take m).foldl addNew met).length ≤ 304 := by
        have h1 := addAll_len ((r.name :: r.parts).take m) met
        have h2 := r.parts_len
        rw [List.length_take, List.length_cons] at h1
        omega
      refine st_le (Le.set hP2 4 _) ?_
      generalize ((r.name :: r.parts).take m).foldl addNew met = met2 at hl2
      refine st_if (et_lendO 2 frozL (et_cmp o_notInLS (ev_var 4) (ev_var 2))) (fun h => ?_) (fun h => st_nil (st_nil ?_))
      · have h' : n ∉ met2 := by simpa using h
        refine st_append 2 (ad := ad) (xs := met2) (x := n) (ev_var 4) (st_nil (st_nil ?_)) (lt_line (by omega))
        show Le _ [vl st0, vl rs, .lst repTx ad (addNew met2 n), vl r, .no]
        rw [show addNew met2 n = met2 ++ [n] from if_neg h']
        exact le_cons (le_cons (le_cons (le_cons (le_no le_nil))))
      · have h' : n ∈ met2 := by simpa using h
        show Le _ [vl st0, vl rs, .lst repTx ad (addNew met2 n), vl r, .no]
        rw [show addNew met2 n = met2 from if_pos h']
        exact le_cons (le_cons (le_cons (le_cons (le_no le_nil))))
    · rw [List.take_length] at hP2
      exact st_nil (Le.trans hP2 (le_cons (le_cons (le_cons (le_no (le_no le_nil))))))
  · rw [List.take_length] at hP
    exact st_le hP (st_retL 2 hq)
theorem badSign_drop {signs : Tx} {rs : List RuleD} {k : Nat} {r : RuleD} (h : rs[k]? = some r) : badSign signs k (rs.drop k) = if r.signIn signs then badSign signs (k + 1) (rs.drop (k + 1)) else some k := by
  obtain ⟨hk, rfl⟩ := List.getElem?_eq_some_iff.mp h
  rw [List.drop_eq_getElem_cons hk]
  rfl
theorem ok_asked_rules (T : Txt K mg) : Has P w K mg base 4 "asked_rules" ["signs", "rules"] askedRS := by
  refine Has.ofX T.f_asked_rules sc_asked_rules (fun A Q R ⟨x, rs, e, _⟩ => by rw [e]; rfl) fun f cdv A outer s0 H E hr Γ Q R ⟨signs, rs, e, hg, h1, h2⟩ => ?_
  subst e
  refine st_if (et_cmp o_gt (ev_len T.b_len (ev_var 1)) (ev_gintE T.c_MOST_RULES)) (fun h => ?_) (fun h => st_nil ?_)
  · refine st_raise1 T.x_NoGrammar (init_NoGrammar T) (hr.mono (by decide)) (ev_why (ev_str "rules") (es_cons (ev_len T.b_len (ev_var 1)) es_nil)) (h2 _ ?_)
    unfold whyRules
    rw [if_pos (by have := of_decide_eq_true h; omega)]
  have h24 : rs.length ≤ 24 := by have := of_decide_eq_false h; omega
  have ew : whyRules signs rs = (badSign signs 0 rs).map fun (k : Nat) => ⟨tx "sign", [(k : Int)]⟩ := by
    unfold whyRules
    exact if_neg (show ¬ 24 < rs.length by omega)
  rw [ew] at h1 h2
  refine st_for (fun k Γ => badSign signs k (rs.drop k) = badSign signs 0 rs ∧ Le Γ [vl signs, vl rs, .no, .no]) (src_enum T.b_enumerate (ev_var 1)) (tg_pair 2 3 (by decide)) ⟨rfl, Le.refl⟩ (fun k x Γ' hk hP => ?_) (fun Γ' hP => ?_) (pg2 2 3 (pgn 2 sc_asked_rules.nd) (pgn 3 sc_asked_rules.nd))
  · obtain ⟨n, r⟩ := x
    obtain ⟨hn, hr'⟩ := enumL_get hk
    subst hn
    obtain ⟨hb, hP⟩ := hP
    rw [badSign_drop hr'] at hb
    have hgr := hg r (List.mem_of_getElem? hr')
    refine st_le (Le.set (Le.set hP 2 _) 3 _) ?_
    have fin : Le (((([vl signs, vl rs, .no, .no] : List Tw.Slot).set 2 (vl (k : Int))).set 3 (vl r))) [vl signs, vl rs, .no, .no] := le_cons (le_cons (le_no (le_no le_nil)))
    refine st_if (k := !r.signIn signs) ?_ (fun h => ?_) (fun h => st_nil (st_nil ⟨?_, fin⟩))
    · cases r with
      | cell n c s =>
        obtain ⟨d, rfl⟩ : ∃ d, s = [d] := by
          have hs := signOk_of (Bool.and_eq_true .. ▸ hgr : signOk s = true ∧ _).1
          match s, hs with
          | [d], _ => exact ⟨d, rfl⟩
        exact et_eq (et_and (et_val (ev_isiI T.b_isinstance T.o_CellRule T.o_CellRule T.u_CellRule_CellRule rfl (ev_var 3))) fun _ => et_cmp (o_notInS (c := d)) (ev_fld (x := RuleD.cell n c [d]) (y := ([d] : Tx)) T.o_CellRule T.a_CellRule_sign rfl rfl (ev_var 3)) (ev_var 0)) rfl
      | beside n c a b => exact et_eq (et_and (m := false) (et_val (ev_isiI T.b_isinstance T.o_BesideRule T.o_CellRule T.u_BesideRule_CellRule rfl (ev_var 3))) fun h => absurd h (by decide)) rfl
      | above n c a b => exact et_eq (et_and (m := false) (et_val (ev_isiI T.b_isinstance T.o_AboveRule T.o_CellRule T.u_AboveRule_CellRule rfl (ev_var 3))) fun h => absurd h (by decide)) rfl
      | turn n c a t => exact et_eq (et_and (m := false) (et_val (ev_isiI T.b_isinstance T.o_TurnRule T.o_CellRule T.u_TurnRule_CellRule rfl (ev_var 3))) fun h => absurd h (by decide)) rfl
    · have h' : r.signIn signs = false := by simpa using h
      rw [h', if_neg (by decide)] at hb
      exact st_raise1 T.x_NoGrammar (init_NoGrammar T) (hr.mono (by decide)) (ev_why (ev_str "sign") (es_cons (ev_var 2) es_nil)) (h2 _ (by rw [← hb]; rfl))
    · have h' : r.signIn signs = true := by simpa using h
      rw [h', if_pos rfl] at hb
      exact hb
  · obtain ⟨hb, hP⟩ := hP
    rw [enumL_len, List.drop_length] at hb
    exact st_le hP (st_nil (h1 (by rw [← hb]; rfl)))
end

theorem RuleD.told_len {r : RuleD} (h : r.good = true) : r.told.length ≤ 40 := by
  have hb := RuleD.begun_len h
  cases r with
  | cell n c s =>
    simp only [RuleD.good, Bool.and_eq_true] at h
    have := signOk_of h.1
    show ((RuleD.cell n c s).begun ++ s).length ≤ 40
    rw [List.length_append]
    omega
  | beside n c a b =>
    simp only [RuleD.good, Bool.and_eq_true] at h
    have h1 := isName_len h.2.1
    have h2 := isName_len h.2.2
    show ((RuleD.beside n c a b).begun ++ a ++ tx " | " ++ b).length ≤ 40
    simp only [List.length_append]
    show _ + _ + 3 + _ ≤ 40
    omega
  | above n c a b =>
    simp only [RuleD.good, Bool.and_eq_true] at h
    have h1 := isName_len h.2.1
    have h2 := isName_len h.2.2
    show ((RuleD.above n c a b).begun ++ a ++ tx " / " ++ b).length ≤ 40
    simp only [List.length_append]
    show _ + _ + 3 + _ ≤ 40
    omega
  | turn n c a t =>
    simp only [RuleD.good, Bool.and_eq_true, decide_eq_true_eq] at h
    have h1 := isName_len h.2.2
    have h2 := strI_len (c := t) (by omega)
    show ((RuleD.turn n c a t).begun ++ a ++ tx " turned " ++ strI t).length ≤ 40
    simp only [List.length_append]
    rw [h2]
    show _ + _ + 8 + _ ≤ 40
    omega
theorem sum_len {b : Nat} : ∀ {xs : List Tx}, (∀ x ∈ xs, x.length ≤ b) → (xs.map (·.length)).sum ≤ b * xs.length
  | [], _ => by simp
  | x :: xs, h => by
    have h1 := sum_len (b := b) (xs := xs) fun y hy => h y (List.mem_cons_of_mem _ hy)
    have h2 := h x (List.mem_cons_self ..)
    rw [List.map_cons, List.sum_cons, List.length_cons, Nat.mul_succ]
    omega
def gOneS (α : Type) [i : Rep α] (f : GramD → α) : Tw.Spec := fun A P _ => ∃ (g : GramD), A = [vl g] ∧ P (rv (f g))
def gNewS (α : Type) [i : Rep α] (f : GramD → List α) : Tw.Spec := fun A P _ => ∃ (g : GramD), A = [vl g] ∧ P (rn (f g))
def gRuleS : Tw.Spec := fun A P _ => ∃ (g : GramD) (k : Int) (r : RuleD), A = [vl g, vl k] ∧ atI g.rules k = some r ∧ P (rv r)
def gNumS : Tw.Spec := fun A P R => ∃ (g : GramD) (n : Tx), A = [vl g, vl n] ∧ g.rules.length ≤ 100 ∧ (n ∈ g.names → P (rn (numbersL n g.rules))) ∧ (n ∉ g.names → R NoNameX)
def gToldS : Tw.Spec := fun A P _ => ∃ (g : GramD), A = [vl g] ∧ g.rules.length ≤ 100 ∧ g.signs.length ≤ 900 ∧ g.start.length ≤ 900 ∧ (∀ r ∈ g.rules, r.good = true) ∧ P (rv g.told)
section
variable {P : Program} {w : World} {K : PySem.W.Frag} {mg : Str → Option Value} {base : Heap}
theorem ok_Grammar_init (T : Txt K mg) : HasM P w K mg base 6 "Grammar" "__init__" ["self", "signs", "start", "rules"] (gramS K) := by
  refine HasM.ofI T.m_Grammar_init sc_Grammar_init (fun A Q R ⟨C, a, dx, signs, st0, rs, e, _⟩ => by rw [e]; rfl) fun f cdv A outer s0 H E hr Γ Q R ⟨C, a, dx, signs, st0, rs, e, hC, l1, l2, l3, hg, h1, h2⟩ => ⟨ownI C a dx [], ?_⟩
  subst e
  have hc := OC.cl T.o_Grammar hC
  refine st_if (et_not (et_val (ev_call (x := signsOk signs) (ok_are_signs T) (hr.mono (by decide)) (ea_cons (ev_var 1) ea_nil) fun P R h => ⟨signs, rfl, l1, h⟩))) (fun h => ?_) (fun h => st_nil ?_)
  · have h' : signsOk signs = false := by simpa using h
    exact st_raise1 T.x_NoGrammar (init_NoGrammar T) (hr.mono (by decide)) (ev_why (ev_str "signs") es_nil) (h2 _ (if_pos h'))
  have g1 : signsOk signs = true := by simpa using h
  refine st_if (et_not (et_val (ev_call (x := isName st0) (ok_is_name T) (hr.mono (by decide)) (ea_cons (ev_var 2) ea_nil) fun P R h => ⟨st0, rfl, l2, h⟩))) (fun h => ?_) (fun h => st_nil ?_)
  · have h' : isName st0 = false := by simpa using h
    refine st_raise1 T.x_NoGrammar (init_NoGrammar T) (hr.mono (by decide)) (ev_why (ev_str "start") es_nil) (h2 _ ?_)
    unfold whyG
    rw [if_neg (by rw [g1]; decide), if_pos h']
  have g2 : isName st0 = true := by simpa using h
  have eW : whyG signs st0 rs = (match whyRules signs rs with
    | some y => some y
    | none => if 8 < (metL st0 rs).length then some (⟨tx "names", [((metL st0 rs).length : Int)]⟩ : Why) else none) := by
    unfold whyG
    rw [if_neg (by rw [g1]; decide), if_neg (by rw [g2]; decide)]
  rw [eW] at h1 h2
  cases hw : whyRules signs rs with
  | some y =>
    rw [hw] at h2
    exact st_dropR (R := fun x => x = NoGram y) (exx_call (ok_asked_rules T) (hr.mono (by decide)) (ea_cons (ev_var 1) (ea_cons (ev_var 3) ea_nil)) fun P' R' _ h => ⟨signs, rs, rfl, hg, fun z => (by rw [hw] at z; cases z), fun y' hy => (by rw [hw] at hy; cases hy; exact h _ rfl)⟩) (fun x e => e ▸ h2 y rfl)
  | none =>
    rw [hw] at h1 h2
    have h24 : rs.length ≤ 24 := by
      unfold whyRules at hw
      split at hw
      · cases hw
      · omega
    refine st_drop (P := fun r => r = rv ()) (ex_call (ok_asked_rules T) (hr.mono (by decide)) (ea_cons (ev_var 1) (ea_cons (ev_var 3) ea_nil)) fun P' R' h => ⟨signs, rs, rfl, hg, fun _ => h _ rfl, fun y hy => by rw [hw] at hy; cases hy⟩) ?_
    refine st_setN 4 (en_call (ok_names_met T) (hr.mono (by decide)) (ea_cons (ev_var 2) (ea_cons (ev_var 3) ea_nil)) fun P R h => ⟨st0, rs, rfl, by omega, h⟩) (fun ad => ?_) sc_Grammar_init.nd
    refine st_freeze 4 frozL ?_
    refine st_if (et_cmp o_gt (ev_len T.b_len (ev_var 4)) (ev_gintE T.c_MOST_NAMES)) (fun h => ?_) (fun h => st_nil ?_)
    · have h' : 8 < (metL st0 rs).length := by have := of_decide_eq_true h; omega
      exact st_raise1 T.x_NoGrammar (init_NoGrammar T) (hr.mono (by decide)) (ev_why (ev_str "names") (es_cons (ev_len T.b_len (ev_var 4)) es_nil)) (h2 _ (if_pos h'))
    have h' : ¬ 8 < (metL st0 rs).length := by have := of_decide_eq_false h; omega
    refine st_setF 0 (fs := []) (ev_var 1) ?_ hc (T.a_Grammar_signs C hC) rfl
    refine st_setF 0 (fs := [("signs", vl signs)]) (ev_var 2) ?_ hc (T.a_Grammar_start C hC) (lk rfl)
    refine st_setF 0 (fs := [("signs", vl signs), ("start", vl st0)]) (ev_of_en (en_list T.b_list (ev_var 3))) ?_ hc (T.a_Grammar_kept_rules C hC) (lk rfl)
    exact st_setF 0 (fs := [("signs", vl signs), ("start", vl st0), ("kept_rules", vl rs)]) (ev_var 4) (st_nil ⟨_, rfl, rfl, h1 (if_neg h')⟩) hc (T.a_Grammar_kept_names C hC) (lk rfl)
/-- the same, the list of rules an own one that is given back -/
theorem ok_Grammar_initO (T : Txt K mg) : HasM P w K mg base 6 "Grammar" "__init__" ["self", "signs", "start", "rules"] (gramOS K) := by
  refine HasM.ofI2 3 T.m_Grammar_init sc_Grammar_init (fun A Q R ⟨C, a, dx, ad, signs, st0, rs, e, _⟩ => by rw [e]; rfl) fun f cdv A outer s0 H E hr Γ Q R ⟨C, a, dx, ad, signs, st0, rs, e, hC, l1, l2, l3, hg, hW, h1⟩ => ⟨ownI C a dx [], ?_⟩
  subst e
  have hc := OC.cl T.o_Grammar hC
  have ok := mkG_ok hg hW
  have g1 : signsOk signs = true := ok.sg
  have g2 : isName st0 = true := ok.st
  have g3 : rs.length ≤ 24 := ok.many
  have g4 : (metL st0 rs).length ≤ 8 := ok.n8
  have hw : whyRules signs rs = none := by
    unfold whyG at hW
    rw [if_neg (by rw [g1]; decide), if_neg (by rw [g2]; decide)] at hW
    cases hw : whyRules signs rs with
    | none => rfl
    | some y => rw [hw] at hW; cases hW
  refine st_if (k := false) (et_eq (et_not (et_val (ev_call (x := signsOk signs) (ok_are_signs T) (hr.mono (by decide)) (ea_cons (ev_var 1) ea_nil) fun P R h => ⟨signs, rfl, l1, h⟩))) (by rw [g1]; rfl)) (fun h => nomatch h) (fun _ => st_nil ?_)
  refine st_if (k := false) (et_eq (et_not (et_val (ev_call (x := isName st0) (ok_is_name T) (hr.mono (by decide)) (ea_cons (ev_var 2) ea_nil) fun P R h => ⟨st0, rfl, l2, h⟩))) (by rw [g2]; rfl)) (fun h => nomatch h) (fun _ => st_nil ?_)
  refine st_drop (P := fun r => r = rv ()) (ex_lendU 3 frozL (ex_call (ok_asked_rules T) (hr.mono (by decide)) (ea_cons (ev_var 1) (ea_cons (ev_var 3) ea_nil)) fun P' R' h => ⟨signs, rs, rfl, hg, fun _ => h _ rfl, fun y hy => by rw [hw] at hy; cases hy⟩)) ?_
  refine st_setN 4 (en_lendO 3 frozL (en_call (ok_names_met T) (hr.mono (by decide)) (ea_cons (ev_var 2) (ea_cons (ev_var 3) ea_nil)) fun P R h => ⟨st0, rs, rfl, by omega, h⟩)) (fun ad => ?_) sc_Grammar_init.nd
  refine st_freeze 4 frozL ?_
  refine st_if (k := false) (et_eq (et_cmp o_gt (ev_len T.b_len (ev_var 4)) (ev_gintE T.c_MOST_NAMES)) (decide_eq_false (by omega))) (fun h => nomatch h) (fun _ => st_nil ?_)
  refine st_setF 0 (fs := []) (ev_var 1) ?_ hc (T.a_Grammar_signs C hC) rfl
  refine st_setF 0 (fs := [("signs", vl signs)]) (ev_var 2) ?_ hc (T.a_Grammar_start C hC) (lk rfl)
  refine st_setF 0 (fs := [("signs", vl signs), ("start", vl st0)]) (ev_of_en (en_listLO 3 T.b_list)) ?_ hc (T.a_Grammar_kept_rules C hC) (lk rfl)
  exact st_setF 0 (fs := [("signs", vl signs), ("start", vl st0), ("kept_rules", vl rs)]) (ev_var 4) (st_nil ⟨_, _, rfl, rfl, by decide, rfl, h1⟩) hc (T.a_Grammar_kept_names C hC) (lk rfl)
theorem ok_Grammar_rules (T : Txt K mg) : HasM P w K mg base 1 "Grammar" "rules" ["self"] (gNewS RuleD GramD.rules) := by
  refine HasM.of T.m_Grammar_rules sc_Grammar_rules (fun A Q R ⟨g, e, _⟩ => by rw [e]; rfl) fun f cdv A outer s0 H E hr Γ Q R ⟨g, e, hq⟩ => ?_
  subst e
  exact st_retE (en_list T.b_list (ev_fld (x := g) (y := g.rules) T.o_Grammar T.a_Grammar_kept_rules rfl rfl (ev_var 0))) hq
theorem ok_Grammar_many (T : Txt K mg) : HasM P w K mg base 1 "Grammar" "many" ["self"] (gOneS Int fun g => (g.rules.length : Int)) := by
  refine HasM.of T.m_Grammar_many sc_Grammar_many (fun A Q R ⟨g, e, _⟩ => by rw [e]; rfl) fun f cdv A outer s0 H E hr Γ Q R ⟨g, e, hq⟩ => ?_
  subst e
  exact st_retV (ev_len T.b_len (ev_fld (x := g) (y := g.rules) T.o_Grammar T.a_Grammar_kept_rules rfl rfl (ev_var 0))) hq
theorem ok_Grammar_names (T : Txt K mg) : HasM P w K mg base 1 "Grammar" "names" ["self"] (gNewS Tx GramD.names) := by
  refine HasM.of T.m_Grammar_names sc_Grammar_names (fun A Q R ⟨g, e, _⟩ => by rw [e]; rfl) fun f cdv A outer s0 H E hr Γ Q R ⟨g, e, hq⟩ => ?_
  subst e
  exact st_retE (en_list T.b_list (ev_fld (x := g) (y := g.names) T.o_Grammar T.a_Grammar_kept_names rfl rfl (ev_var 0))) hq
theorem ok_Grammar_told (T : Txt K mg) : HasM P w K mg base 3 "Grammar" "told" ["self"] gToldS := by
  refine HasM.of T.m_Grammar_told sc_Grammar_told (fun A Q R ⟨g, e, _⟩ => by rw [e]; rfl) fun f cdv A outer s0 H E hr Γ Q R ⟨g, e, l1, l2, l3, hg, hq⟩ => ?_
  subst e
  have s1 : (tx "signs ").length = 6 := by decide
  have s2 : (tx "start ").length = 6 := by decide
  refine st_setN 1 (en_lst (es_cons (x := tx "signs " ++ g.signs) (ev_bin (o_addS (sl_small (by omega))) (ev_str "signs ") (ev_fld (x := g) (y := g.signs) T.o_Grammar T.a_Grammar_signs rfl rfl (ev_var 0))) (es_cons (x := tx "start " ++ g.start) (ev_bin (o_addS (sl_small (by omega))) (ev_str "start ") (ev_fld (x := g) (y := g.start) T.o_Grammar T.a_Grammar_start rfl rfl (ev_var 0))) es_nil))) (fun ad => ?_) sc_Grammar_told.nd
  refine st_freeze 1 frozL ?_
  refine st_retV (ev_join (ev_str "\n") (ev_of_en (en_addL (ev_var 1) (ev_of_en (en_lc (α := RuleD) (β := Tx) (own := [("rule", 2)]) (f := RuleD.told) (src_list (xs := g.rules) (ev_fld (x := g) (y := g.rules) T.o_Grammar T.a_Grammar_kept_rules rfl rfl (ev_var 0))) (tg_name 2) (fun _ _ _ _ _ => pgn 2 sc_Grammar_told.nd)
    (fun r hr' _ _ _ _ _ => ev_meth0 (o_cls T r) (ok_told T r) (hr.mono (by decide)) rfl (RuleD.f_told _) (ev_var 2) fun P' R' h => ⟨_, rfl, rfl, hg r hr', h⟩) sc_Grammar_told.nd (ok := bk_Grammar_told (by decide +kernel)) (hz := sl_small (by omega)))) ?_)) ?_) hq
  · rw [List.length_map]
    exact sl_small (by show 2 + g.rules.length ≤ 1000; omega)
  · have hs : ∀ x ∈ [tx "signs " ++ g.signs, tx "start " ++ g.start] ++ g.rules.map RuleD.told, x.length ≤ 910 := fun x hx => by
      rcases List.mem_append.mp hx with hx | hx
      · simp only [List.mem_cons, List.not_mem_nil, or_false] at hx
        rcases hx with rfl | rfl
        · rw [List.length_append, s1]; omega
        · rw [List.length_append, s2]; omega
      · obtain ⟨r, hr', rfl⟩ := List.mem_map.mp hx
        have := RuleD.told_len (hg r hr')
        omega
    have hs2 := sum_len hs
    have hl : ([tx "signs " ++ g.signs, tx "start " ++ g.start] ++ g.rules.map RuleD.told).length = 2 + g.rules.length := by rw [List.length_append, List.length_map]; rfl
    have s3 : (tx "\n").length = 1 := by decide
    rw [hl] at hs2 ⊢
    rw [s3]
    omega
end

/-! ### rows: rules as tuples -/
structure Row where
  r : RuleD
def RuleD.kindTx : RuleD → Tx
  | .cell .. => tx "cell"
  | .beside .. => tx "beside"
  | .above .. => tx "above"
  | .turn .. => tx "turned"
def Row.els (q : Row) : List Tw.Slot := match q.r with
  | .cell n c s => [vl n, vl c, vl (tx "cell"), vl s, vl (0 : Int)]
  | .beside n c a b => [vl n, vl c, vl (tx "beside"), vl a, vl b]
  | .above n c a b => [vl n, vl c, vl (tx "above"), vl a, vl b]
  | .turn n c a t => [vl n, vl c, vl (tx "turned"), vl a, vl t]
instance : HetT Row := ⟨Row.els⟩
theorem Row.els_len (q : Row) : (HetT.els q).length = 5 := by
  obtain ⟨r⟩ := q
  cases r <;> rfl
theorem Row.e0 (q : Row) : (HetT.els q)[0]? = some (vl q.r.name) := by
  obtain ⟨r⟩ := q
  cases r <;> rfl
theorem Row.e1 (q : Row) : (HetT.els q)[1]? = some (vl q.r.cost) := by
  obtain ⟨r⟩ := q
  cases r <;> rfl
theorem Row.e2 (q : Row) : (HetT.els q)[2]? = some (vl q.r.kindTx) := by
  obtain ⟨r⟩ := q
  cases r <;> rfl
theorem strI_dig {n : Int} (h : 0 ≤ n) (h9 : n ≤ 9) : TxOk (strI n) := by
  have : ∀ k : Nat, k < 10 → ∀ c ∈ strI (k : Int), c < 1114112 := by decide +kernel
  have e : n = ((n.toNat : Nat) : Int) := by omega
  rw [e]
  exact this _ (by omega)
theorem tok_lit {x : Tx} (h : (x.all fun c => decide (c < 1114112)) = true) : TxOk x := fun c hc => by
  have := List.all_eq_true.mp h c hc
  simpa using this
theorem tok_app {x y : Tx} (h1 : TxOk x) (h2 : TxOk y) : TxOk (x ++ y) := fun c hc => (List.mem_append.mp hc).elim (h1 c) (h2 c)
theorem signOk_ok {s : Tx} (h : signOk s = true) : TxOk s := fun c hc => by
  unfold signOk at h
  simp only [Bool.and_eq_true, List.all_eq_true, decide_eq_true_eq] at h
  have := small_lt c (h.2 c hc)
  omega
theorem RuleD.begun_ok {r : RuleD} (h : r.good = true) : TxOk r.begun := by
  have hn : isName r.name = true ∧ costOk r.cost = true := by
    cases r <;> simp only [RuleD.good, Bool.and_eq_true] at h <;> exact ⟨by simp [RuleD.name, h], by simp [RuleD.cost, h]⟩
  have hc := costOk_of hn.2
  exact tok_app (tok_app (tok_app (isName_ok hn.1) (tok_lit (by decide))) (strI_dig (by omega) (by omega))) (tok_lit (by decide))
theorem RuleD.told_ok {r : RuleD} (h : r.good = true) : TxOk r.told := by
  have hb := RuleD.begun_ok h
  cases r with
  | cell n c s =>
    simp only [RuleD.good, Bool.and_eq_true] at h
    exact tok_app hb (signOk_ok h.1)
  | beside n c a b =>
    simp only [RuleD.good, Bool.and_eq_true] at h
    exact tok_app (tok_app (tok_app hb (isName_ok h.2.1)) (tok_lit (by decide))) (isName_ok h.2.2)
  | above n c a b =>
    simp only [RuleD.good, Bool.and_eq_true] at h
    exact tok_app (tok_app (tok_app hb (isName_ok h.2.1)) (tok_lit (by decide))) (isName_ok h.2.2)
  | turn n c a t =>
    simp only [RuleD.good, Bool.and_eq_true, decide_eq_true_eq] at h
    exact tok_app (tok_app (tok_app hb (isName_ok h.2.2)) (tok_lit (by decide))) (strI_dig h.1.1 (by omega))
/-- the signs that a rule of a cell has are among these -/
def RuleD.of (signs : Tx) (r : RuleD) : Prop := match r with
  | .cell _ _ s => ∃ d ∈ signs, s = [d]
  | _ => True
def rowsS : Tw.Spec := fun A P _ => ∃ (cells : List Int) (names : List Tx) (signs : Tx), A = [vl cells, vl names, vl signs] ∧ cells.length ≤ 60 ∧ (∀ n ∈ names, isName n = true) ∧ 1 ≤ names.length ∧ names.length ≤ 60 ∧ (∀ d ∈ signs, d ∈ smallTx) ∧ 1 ≤ signs.length ∧ signs.length ≤ 60 ∧
  P (.own fun o => ∃ (ad : Addr) (rows : List Row), rows.length ≤ cells.length ∧ (∀ q ∈ rows, q.r.good = true ∧ q.r.of signs ∧ ∀ n ∈ q.r.name :: q.r.parts, n ∈ names) ∧ o = ownL repHetT ad rows)
def rowRuleS : Tw.Spec := fun A P _ => ∃ (q : Row), A = [vl q] ∧ q.r.good = true ∧ P (rv q.r)
def rowPartsS : Tw.Spec := fun A P _ => ∃ (q : Row), A = [vl q] ∧ P (rn q.r.parts)
def rowTextS : Tw.Spec := fun A P _ => ∃ (q : Row), A = [vl q] ∧ q.r.good = true ∧ P (rv q.r.told)
def rowsR (rows : List Row) : List RuleD := rows.map Row.r
def gTextS : Tw.Spec := fun A P _ => ∃ (signs start : Tx) (rows : List Row), A = [vl signs, vl start, vl rows] ∧ rows.length ≤ 100 ∧ signs.length ≤ 900 ∧ start.length ≤ 900 ∧ (∀ q ∈ rows, q.r.good = true) ∧ P (rv (mkG signs start (rowsR rows)).told)
def lawMetS : Tw.Spec := fun A P _ => ∃ (start : Tx) (rows : List Row), A = [vl start, vl rows] ∧ rows.length ≤ 100 ∧ P (rn (metL start (rowsR rows)))
theorem small_log : ∀ n : Nat, n < 64 → n.log2 < 9000 := by decide
section
variable {P : Program} {w : World} {K : PySem.W.Frag} {mg : Str → Option Value} {base : Heap}
theorem ok_law_rows (T : Txt K mg) : Has P w K mg base 2 "_law_rows" ["_law_cells", "_law_names", "_law_signs_here"] rowsS := by
  refine Has.of T.f_law_rows sc_law_rows (fun A Q R ⟨cells, names, signs, e, _⟩ => by rw [e]; rfl) fun f cdv A outer s0 H E hr Γ Q R ⟨cells, names, signs, e, hl, hn, n1, n2, hs, s1, s2, hq⟩ => ?_
  subst e
  refine st_setN 3 (α := Row) (i := repHetT) (en_lst es_nil) (fun ad => ?_) sc_law_rows.nd
  refine st_for (fun k Γ => ∃ rows : List Row, rows.length ≤ k ∧ (∀ q ∈ rows, q.r.good = true ∧ q.r.of signs ∧ ∀ n ∈ q.r.name :: q.r.parts, n ∈ names) ∧ Le Γ [vl cells, vl names, vl signs, .lst repHetT ad rows, .no, .no, .no, .no, .no, .no]) (src_enum T.b_enumerate (ev_var 0)) (tg_pair 4 5 (by decide)) ⟨[], Nat.zero_le _, (fun _ h => nomatch h), Le.refl⟩ (fun k x Γ' hk hP => ?_) (fun Γ' hP => ?_) (pg2 4 5 (pgn 4 sc_law_rows.nd) (pgn 5 sc_law_rows.nd))
  · obtain ⟨n, c⟩ := x
    obtain ⟨e1, hc⟩ := enumL_get hk
    subst e1
    have hk60 : k < cells.length := (List.getElem?_eq_some_iff.mp hc).1
    obtain ⟨rows, hlen, hrows, hP⟩ := hP
    refine st_le (Le.set (Le.set hP 4 _) 5 _) ?_
    refine st_set 5 (ev_call (ok_law_mix T) (hr.mono (by decide)) (ea_cons (ev_var 5) (ea_cons (ev_var 4) ea_nil)) fun P R h => ⟨_, _, rfl, h⟩) ?_ sc_law_rows.nd
    generalize mixI c (k : Int) = c
    have pick : ∀ z : Int, ∃ y, atI names (z % (names.length : Int)) = some y ∧ y ∈ names := fun z => list_atI (Int.emod_nonneg _ (by omega)) (Int.emod_lt_of_pos _ (by omega))
    obtain ⟨y0, a0, m0⟩ := pick c
    refine st_set 6 (x := y0) (ev_ixL (xs := names) (ev_var 1) (ev_bin (o_mod (y := (names.length : Int)) (by omega)) (ev_var 5) (ev_len T.b_len (ev_var 1))) a0) ?_ sc_law_rows.nd
    refine st_set 5 (ev_bin (o_div (y := (names.length : Int)) ⟨by omega, small_log _ (by omega)⟩) (ev_var 5) (ev_len T.b_len (ev_var 1))) ?_ sc_law_rows.nd
    generalize c / (names.length : Int) = c
    obtain ⟨y1, a1, m1⟩ := pick (c / 4)
    obtain ⟨y2, a2, m2⟩ := pick (c / 44)
    refine st_set 7 (x := y1) (ev_ixL (xs := names) (ev_var 1) (ev_bin (o_mod (y := (names.length : Int)) (by omega)) (ev_bin (o_div divK) (ev_var 5) ev_int) (ev_len T.b_len (ev_var 1))) a1) ?_ sc_law_rows.nd
    refine st_set 8 (x := y2) (ev_ixL (xs := names) (ev_var 1) (ev_bin (o_mod (y := (names.length : Int)) (by omega)) (ev_bin (o_div divK) (ev_var 5) ev_int) (ev_len T.b_len (ev_var 1))) a2) ?_ sc_law_rows.nd
    refine st_set 9 (ev_bin o_add ev_int (ev_bin (o_mod (by decide)) (ev_bin (o_div divK) (ev_var 5) ev_int) ev_int)) ?_ sc_law_rows.nd
    have c1 := Int.emod_nonneg (c / 5) (by decide : (9 : Int) ≠ 0)
    have c2 := Int.emod_lt_of_pos (c / 5) (by decide : (0 : Int) < 9)
    have gc : costOk (1 + c / 5 % 9) = true := by
      unfold costOk
      rw [decide_eq_true (by omega), decide_eq_true (by omega)]; rfl
    generalize 1 + c / 5 % 9 = cost at gc
    have g0 := hn _ m0
    have g1 := hn _ m1
    have g2 := hn _ m2
    have go : ∀ q : Row, q.r.good = true → q.r.of signs → (∀ n ∈ q.r.name :: q.r.parts, n ∈ names) → ∀ Γ2, Le Γ2 [vl cells, vl names, vl signs, .lst repHetT ad (rows ++ [q]), .no, .no, .no, .no, .no, .no] →
        ∃ rows : List Row, rows.length ≤ k + 1 ∧ (∀ q ∈ rows, q.r.good = true ∧ q.r.of signs ∧ ∀ n ∈ q.r.name :: q.r.parts, n ∈ names) ∧ Le Γ2 [vl cells, vl names, vl signs, .lst repHetT ad rows, .no, .no, .no, .no, .no, .no] := fun q h1 h2 h3 Γ2 h4 => ⟨_, by rw [List.length_append, List.length_cons, List.length_nil]; omega, fun q' hq' => by
      rcases List.mem_append.mp hq' with z | z
      · exact hrows q' z
      · rw [List.mem_singleton.mp z]; exact ⟨h1, h2, h3⟩, h4⟩
    have le : ∀ (xs : List Row) (x1 x2 x3 x4 x5 x6 : Tw.Slot), x1.isOwn = false → x2.isOwn = false → x3.isOwn = false → x4.isOwn = false → x5.isOwn = false → x6.isOwn = false → Le [vl cells, vl names, vl signs, .lst repHetT ad xs, x1, x2, x3, x4, x5, x6] [vl cells, vl names, vl signs, .lst repHetT ad xs, .no, .no, .no, .no, .no, .no] := fun xs x1 x2 x3 x4 x5 x6 _ _ _ _ _ _ => le_cons (le_cons (le_cons (le_cons (le_no (le_no (le_no (le_no (le_no (le_no le_nil)))))))))
    refine st_if (et_cmp o_eq (ev_bin (o_mod (by decide)) (ev_var 5) ev_int) ev_int) (fun _ => ?_) (fun _ => ?_)
    · obtain ⟨d, ad', md⟩ := list_atI (xs := signs) (n := c / 36 % (signs.length : Int)) (Int.emod_nonneg _ (by omega)) (Int.emod_lt_of_pos _ (by omega))
      have gs : signOk [d] = true := by
        unfold signOk
        simp only [List.length_cons, List.length_nil, List.all_cons, List.all_nil, Bool.and_true, decide_eq_true (hs d md)]
        rfl
      refine st_append 3 (ad := ad) (xs := rows) (x := Row.mk (.cell y0 cost [d])) (ev_tupX (ea_cons (ev_var 6) (ea_cons (ev_var 9) (ea_cons (ev_str "cell") (ea_cons (ev_ixS (x := signs) (ev_var 2) (ev_bin (o_mod (y := (signs.length : Int)) (by omega)) (ev_bin (o_div divK) (ev_var 5) ev_int) (ev_lenS T.b_len (ev_var 2) (sl_small (by omega)))) ad' (sl_small (by omega))) (ea_cons ev_int ea_nil)))))) (st_nil (st_nil (go (Row.mk (.cell y0 cost [d])) ?_ ⟨d, md, rfl⟩ ?_ _ (le _ _ _ _ _ _ _ rfl rfl rfl rfl rfl rfl)))) (lt_line (by omega))
      · simp [RuleD.good, gs, gc, g0]
      · intro n hn'
        rw [show n = y0 from List.mem_singleton.mp hn']; exact m0
    refine st_if (et_cmp o_eq (ev_bin (o_mod (by decide)) (ev_var 5) ev_int) ev_int) (fun _ => ?_) (fun _ => ?_)
    · refine st_append 3 (ad := ad) (xs := rows) (x := Row.mk (.beside y0 cost y1 y2)) (ev_tupX (ea_cons (ev_var 6) (ea_cons (ev_var 9) (ea_cons (ev_str "beside") (ea_cons (ev_var 7) (ea_cons (ev_var 8) ea_nil)))))) (st_nil (st_nil (st_nil (go (Row.mk (.beside y0 cost y1 y2)) ?_ trivial ?_ _ (le _ _ _ _ _ _ _ rfl rfl rfl rfl rfl rfl))))) (lt_line (by omega))
      · simp [RuleD.good, g1, g2, gc, g0]
      · intro n hn'
        simp only [RuleD.name, RuleD.parts, List.mem_cons, List.not_mem_nil, or_false] at hn'
        rcases hn' with rfl | rfl | rfl <;> assumption
    refine st_if (et_cmp o_eq (ev_bin (o_mod (by decide)) (ev_var 5) ev_int) ev_int) (fun _ => ?_) (fun _ => ?_)
    · refine st_append 3 (ad := ad) (xs := rows) (x := Row.mk (.above y0 cost y1 y2)) (ev_tupX (ea_cons (ev_var 6) (ea_cons (ev_var 9) (ea_cons (ev_str "above") (ea_cons (ev_var 7) (ea_cons (ev_var 8) ea_nil)))))) (st_nil (st_nil (st_nil (st_nil (go (Row.mk (.above y0 cost y1 y2)) ?_ trivial ?_ _ (le _ _ _ _ _ _ _ rfl rfl rfl rfl rfl rfl)))))) (lt_line (by omega))
      · simp [RuleD.good, g1, g2, gc, g0]
      · intro n hn'
        simp only [RuleD.name, RuleD.parts, List.mem_cons, List.not_mem_nil, or_false] at hn'
        rcases hn' with rfl | rfl | rfl <;> assumption
    · have t1 := Int.emod_nonneg (c / 84) (by decide : (8 : Int) ≠ 0)
      have t2 := Int.emod_lt_of_pos (c / 84) (by decide : (0 : Int) < 8)
      refine st_append 3 (ad := ad) (xs := rows) (x := Row.mk (.turn y0 cost y1 (c / 84 % 8))) (ev_tupX (ea_cons (ev_var 6) (ea_cons (ev_var 9) (ea_cons (ev_str "turned") (ea_cons (ev_var 7) (ea_cons (ev_bin (o_mod (by decide)) (ev_bin (o_div divK) (ev_var 5) ev_int) ev_int) ea_nil)))))) (st_nil (st_nil (st_nil (st_nil (go (Row.mk (.turn y0 cost y1 (c / 84 % 8))) ?_ trivial ?_ _ (le _ _ _ _ _ _ _ rfl rfl rfl rfl rfl rfl)))))) (lt_line (by omega))
      · simp [RuleD.good, g1, gc, g0]; omega
      · intro n hn'
        simp only [RuleD.name, RuleD.parts, List.mem_cons, List.not_mem_nil, or_false] at hn'
        rcases hn' with rfl | rfl <;> assumption
  · obtain ⟨rows, hlen, hrows, hP⟩ := hP
    rw [enumL_len] at hlen
    exact st_le hP (st_retO 3 hq ⟨ad, rows, hlen, hrows, rfl⟩)
theorem ok_law_rule (T : Txt K mg) : Has P w K mg base 6 "_law_rule" ["_law_row"] rowRuleS := by
  refine Has.of T.f_law_rule sc_law_rule (fun A Q R ⟨q, e, _⟩ => by rw [e]; rfl) fun f cdv A outer s0 H E hr Γ Q R ⟨q, e, hg, hq⟩ => ?_
  subst e
  have hs := RuleD.good_short hg
  obtain ⟨r⟩ := q
  cases r with
  | cell n c s =>
    refine st_if (k := true) (et_eq (et_cmp o_eqS (ev_ixX (x := Row.mk (.cell n c s)) (y := tx "cell") (k := 2) (ev_var 0) ev_int rfl rfl) (ev_str "cell")) (decide_eq_true rfl)) (fun _ => ?_) (fun h => nomatch h)
    exact st_retV (ev_good (mkx_cell T hr (ea_cons (x := n) (ev_ixX (x := Row.mk (.cell n c s)) (k := 0) (ev_var 0) ev_int rfl rfl) (ea_cons (x := c) (ev_ixX (x := Row.mk (.cell n c s)) (k := 1) (ev_var 0) ev_int rfl rfl) (ea_cons (x := s) (ev_ixX (x := Row.mk (.cell n c s)) (k := 3) (ev_var 0) ev_int rfl rfl) ea_nil))) hs.1 hs.2) hg) hq
  | beside n c a b =>
    refine st_if (k := false) (et_eq (et_cmp o_eqS (ev_ixX (x := Row.mk (.beside n c a b)) (y := tx "beside") (k := 2) (ev_var 0) ev_int rfl rfl) (ev_str "cell")) (by decide)) (fun h => nomatch h) (fun _ => st_nil ?_)
    refine st_if (k := true) (et_eq (et_cmp o_eqS (ev_ixX (x := Row.mk (.beside n c a b)) (y := tx "beside") (k := 2) (ev_var 0) ev_int rfl rfl) (ev_str "beside")) (decide_eq_true rfl)) (fun _ => ?_) (fun h => nomatch h)
    exact st_retV (ev_good (mkx_beside T hr (ea_cons (x := n) (ev_ixX (x := Row.mk (.beside n c a b)) (k := 0) (ev_var 0) ev_int rfl rfl) (ea_cons (x := c) (ev_ixX (x := Row.mk (.beside n c a b)) (k := 1) (ev_var 0) ev_int rfl rfl) (ea_cons (x := a) (ev_ixX (x := Row.mk (.beside n c a b)) (k := 3) (ev_var 0) ev_int rfl rfl) (ea_cons (x := b) (ev_ixX (x := Row.mk (.beside n c a b)) (k := 4) (ev_var 0) ev_int rfl rfl) ea_nil)))) hs.1 hs.2.1 hs.2.2) hg) hq
  | above n c a b =>
    refine st_if (k := false) (et_eq (et_cmp o_eqS (ev_ixX (x := Row.mk (.above n c a b)) (y := tx "above") (k := 2) (ev_var 0) ev_int rfl rfl) (ev_str "cell")) (by decide)) (fun h => nomatch h) (fun _ => st_nil ?_)
    refine st_if (k := false) (et_eq (et_cmp o_eqS (ev_ixX (x := Row.mk (.above n c a b)) (y := tx "above") (k := 2) (ev_var 0) ev_int rfl rfl) (ev_str "beside")) (by decide)) (fun h => nomatch h) (fun _ => st_nil ?_)
    refine st_if (k := true) (et_eq (et_cmp o_eqS (ev_ixX (x := Row.mk (.above n c a b)) (y := tx "above") (k := 2) (ev_var 0) ev_int rfl rfl) (ev_str "above")) (decide_eq_true rfl)) (fun _ => ?_) (fun h => nomatch h)
    exact st_retV (ev_good (mkx_above T hr (ea_cons (x := n) (ev_ixX (x := Row.mk (.above n c a b)) (k := 0) (ev_var 0) ev_int rfl rfl) (ea_cons (x := c) (ev_ixX (x := Row.mk (.above n c a b)) (k := 1) (ev_var 0) ev_int rfl rfl) (ea_cons (x := a) (ev_ixX (x := Row.mk (.above n c a b)) (k := 3) (ev_var 0) ev_int rfl rfl) (ea_cons (x := b) (ev_ixX (x := Row.mk (.above n c a b)) (k := 4) (ev_var 0) ev_int rfl rfl) ea_nil)))) hs.1 hs.2.1 hs.2.2) hg) hq
  | turn n c a t =>
    refine st_if (k := false) (et_eq (et_cmp o_eqS (ev_ixX (x := Row.mk (.turn n c a t)) (y := tx "turned") (k := 2) (ev_var 0) ev_int rfl rfl) (ev_str "cell")) (by decide)) (fun h => nomatch h) (fun _ => st_nil ?_)
    refine st_if (k := false) (et_eq (et_cmp o_eqS (ev_ixX (x := Row.mk (.turn n c a t)) (y := tx "turned") (k := 2) (ev_var 0) ev_int rfl rfl) (ev_str "beside")) (by decide)) (fun h => nomatch h) (fun _ => st_nil ?_)
    refine st_if (k := false) (et_eq (et_cmp o_eqS (ev_ixX (x := Row.mk (.turn n c a t)) (y := tx "turned") (k := 2) (ev_var 0) ev_int rfl rfl) (ev_str "above")) (by decide)) (fun h => nomatch h) (fun _ => st_nil ?_)
    exact st_retV (ev_good (mkx_turn T hr (ea_cons (x := n) (ev_ixX (x := Row.mk (.turn n c a t)) (k := 0) (ev_var 0) ev_int rfl rfl) (ea_cons (x := c) (ev_ixX (x := Row.mk (.turn n c a t)) (k := 1) (ev_var 0) ev_int rfl rfl) (ea_cons (x := a) (ev_ixX (x := Row.mk (.turn n c a t)) (k := 3) (ev_var 0) ev_int rfl rfl) (ea_cons (x := t) (ev_ixX (x := Row.mk (.turn n c a t)) (k := 4) (ev_var 0) ev_int rfl rfl) ea_nil)))) hs.1 hs.2) hg) hq
theorem ok_law_parts (T : Txt K mg) : Has P w K mg base 1 "_law_parts" ["_law_row"] rowPartsS := by
  refine Has.of T.f_law_parts sc_law_parts (fun A Q R ⟨q, e, _⟩ => by rw [e]; rfl) fun f cdv A outer s0 H E hr Γ Q R ⟨q, e, hq⟩ => ?_
  subst e
  obtain ⟨r⟩ := q
  cases r with
  | cell n c s =>
    refine st_if (k := true) (et_eq (et_cmp o_eqS (ev_ixX (x := Row.mk (.cell n c s)) (y := tx "cell") (k := 2) (ev_var 0) ev_int rfl rfl) (ev_str "cell")) (decide_eq_true rfl)) (fun _ => ?_) (fun h => nomatch h)
    exact st_retE (xs := ([] : List Tx)) (en_lst es_nil) hq
  | beside n c a b =>
    refine st_if (k := false) (et_eq (et_cmp o_eqS (ev_ixX (x := Row.mk (.beside n c a b)) (y := tx "beside") (k := 2) (ev_var 0) ev_int rfl rfl) (ev_str "cell")) (by decide)) (fun h => nomatch h) (fun _ => st_nil ?_)
    refine st_if (k := false) (et_eq (et_cmp o_eqS (ev_ixX (x := Row.mk (.beside n c a b)) (y := tx "beside") (k := 2) (ev_var 0) ev_int rfl rfl) (ev_str "turned")) (by decide)) (fun h => nomatch h) (fun _ => st_nil ?_)
    exact st_retE (xs := [a, b]) (en_lst (es_cons (ev_ixX (x := Row.mk (.beside n c a b)) (k := 3) (ev_var 0) ev_int rfl rfl) (es_cons (ev_ixX (x := Row.mk (.beside n c a b)) (k := 4) (ev_var 0) ev_int rfl rfl) es_nil))) hq
  | above n c a b =>
    refine st_if (k := false) (et_eq (et_cmp o_eqS (ev_ixX (x := Row.mk (.above n c a b)) (y := tx "above") (k := 2) (ev_var 0) ev_int rfl rfl) (ev_str "cell")) (by decide)) (fun h => nomatch h) (fun _ => st_nil ?_)
    refine st_if (k := false) (et_eq (et_cmp o_eqS (ev_ixX (x := Row.mk (.above n c a b)) (y := tx "above") (k := 2) (ev_var 0) ev_int rfl rfl) (ev_str "turned")) (by decide)) (fun h => nomatch h) (fun _ => st_nil ?_)
    exact st_retE (xs := [a, b]) (en_lst (es_cons (ev_ixX (x := Row.mk (.above n c a b)) (k := 3) (ev_var 0) ev_int rfl rfl) (es_cons (ev_ixX (x := Row.mk (.above n c a b)) (k := 4) (ev_var 0) ev_int rfl rfl) es_nil))) hq
  | turn n c a t =>
    refine st_if (k := false) (et_eq (et_cmp o_eqS (ev_ixX (x := Row.mk (.turn n c a t)) (y := tx "turned") (k := 2) (ev_var 0) ev_int rfl rfl) (ev_str "cell")) (by decide)) (fun h => nomatch h) (fun _ => st_nil ?_)
    refine st_if (k := true) (et_eq (et_cmp o_eqS (ev_ixX (x := Row.mk (.turn n c a t)) (y := tx "turned") (k := 2) (ev_var 0) ev_int rfl rfl) (ev_str "turned")) (decide_eq_true rfl)) (fun _ => ?_) (fun h => nomatch h)
    exact st_retE (xs := [a]) (en_lst (es_cons (ev_ixX (x := Row.mk (.turn n c a t)) (k := 3) (ev_var 0) ev_int rfl rfl) es_nil)) hq
theorem ok_law_met (T : Txt K mg) : Has P w K mg base 2 "_law_met" ["_law_start", "_law_rows_here"] lawMetS := by
  refine Has.of T.f_law_met sc_law_met (fun A Q R ⟨x, rs, e, _⟩ => by rw [e]; rfl) fun f cdv A outer s0 H E hr Γ Q R ⟨st0, rows, e, hl, hq⟩ => ?_
  subst e
  refine st_setN 2 (en_lst (es_cons (ev_var 0) es_nil)) (fun ad => ?_) sc_law_met.nd
  refine st_for (fun k Γ => Le Γ [vl st0, vl rows, .lst repTx ad (metL st0 ((rowsR rows).take k)), .no, .no]) (src_list (ev_var 1)) (tg_name 3) Le.refl (fun k q Γ' hk hP => ?_) (fun Γ' hP => ?_) (pgn 3 sc_law_met.nd)
  · have hrl : (rowsR rows).length = rows.length := List.length_map ..
    have hlen : (metL st0 ((rowsR rows).take k)).length ≤ 301 := by
      have := metL_len st0 ((rowsR rows).take k)
      rw [List.length_take] at this
      omega
    have hk' : (rowsR rows)[k]? = some q.r := by unfold rowsR; rw [List.getElem?_map, hk]; rfl
    rw [metL_take hk']
    refine st_le (Le.set hP 3 _) ?_
    generalize metL st0 ((rowsR rows).take k) = met at hlen
    refine st_for (fun m Γ => Le Γ [vl st0, vl rows, .lst repTx ad (((q.r.name :: q.r.parts).take m).foldl addNew met), vl q, .no]) (src_list (xs := q.r.name :: q.r.parts) (ev_of_en (en_addL (xs := [q.r.name]) (ys := q.r.parts) (ev_of_en (en_lst (es_cons (ev_ixX (x := q) (y := q.r.name) (k := 0) (ev_var 3) ev_int (by rw [Row.els_len]; rfl) (Row.e0 q)) es_nil))) (ev_of_en (en_call (ok_law_parts T) (hr.mono (by decide)) (ea_cons (ev_var 3) ea_nil) fun P R h => ⟨q, rfl, h⟩)) (sl_small (by have := q.r.parts_len; simp only [List.length_cons, List.length_nil]; omega))))) (tg_name 4) Le.refl (fun m n Γ2 hm hP2 => ?_) (fun Γ2 hP2 => ?_) (pgn 4 sc_law_met.nd)
    · rw [fold_take hm]
      have hl2 : (((q.r.name :: q.r.parts).take m).foldl addNew met).length ≤ 304 := by
        have h1 := addAll_len ((q.r.name :: q.r.parts).take m) met
        have h2 := q.r.parts_len
        rw [List.length_take, List.length_cons] at h1
        omega
      refine st_le (Le.set hP2 4 _) ?_
      generalize ((q.r.name :: q.r.parts).take m).foldl addNew met = met2 at hl2
      refine st_if (et_lendO 2 frozL (et_cmp o_notInLS (ev_var 4) (ev_var 2))) (fun h => ?_) (fun h => st_nil (st_nil ?_))
      · have h' : n ∉ met2 := by simpa using h
        refine st_append 2 (ad := ad) (xs := met2) (x := n) (ev_var 4) (st_nil (st_nil ?_)) (lt_line (by omega))
        show Le _ [vl st0, vl rows, .lst repTx ad (addNew met2 n), vl q, .no]
        rw [show addNew met2 n = met2 ++ [n] from if_neg h']
        exact le_cons (le_cons (le_cons (le_cons (le_no le_nil))))
      · have h' : n ∈ met2 := by simpa using h
        show Le _ [vl st0, vl rows, .lst repTx ad (addNew met2 n), vl q, .no]
        rw [show addNew met2 n = met2 from if_pos h']
        exact le_cons (le_cons (le_cons (le_cons (le_no le_nil))))
    · rw [List.take_length] at hP2
      exact st_nil (Le.trans hP2 (le_cons (le_cons (le_cons (le_no (le_no le_nil))))))
  · rw [show rows.length = (rowsR rows).length from (List.length_map ..).symm, List.take_length] at hP
    exact st_le hP (st_retL 2 hq)
end

/-! ### grammars made of data -/
/-- a grammar that its __init__ made -/
structure GramD.Made (g : GramD) : Prop where
  rs : ∀ r ∈ g.rules, r.good = true
  why : whyG g.signs g.start g.rules = none
  eq : g = mkG g.signs g.start g.rules
theorem GramD.Made.ok {g : GramD} (h : g.Made) : g.Ok := by
  have := mkG_ok h.rs h.why
  rw [← h.eq] at this
  exact this
theorem GramD.Made.mk' {signs start : Tx} {rs : List RuleD} (hg : ∀ r ∈ rs, r.good = true) (h : whyG signs start rs = none) : (mkG signs start rs).Made := ⟨hg, h, rfl⟩
theorem mkG_congr {s1 s2 t1 t2 : Tx} {r1 r2 : List RuleD} (a : s1 = s2) (b : t1 = t2) (c : r1 = r2) : mkG s1 t1 r1 = mkG s2 t2 r2 := by subst a b c; rfl
section
variable {P : Program} {w : World} {K : PySem.W.Frag} {mg : Str → Option Value} {base : Heap}
/-- a grammar made of data -/
theorem ev_mkG {X : Cx} {Γ : List Tw.Slot} {pos p : Pos} {e1 e2 e3 : Expr} {k : Nat} {signs start : Tx} {rs : List RuleD} (T : Txt X.K X.mg) (hr : Room k X.A) (ha : EA X Γ [e1, e2, e3] [vl signs, vl start, vl rs]) (hg : ∀ r ∈ rs, r.good = true) (hw : whyG signs start rs = none) (l1 : signs.length ≤ 1000) (l2 : start.length ≤ 1000) (l3 : rs.length ≤ 1000) (hk : 7 ≤ k := by decide) (hgl : Gl X "Grammar" := by rfl)
    (he : starEach [e1, e2, e3] X.env = (false, eval e1 X.env) :: starEach [e2, e3] X.env := by exact star_of rfl) (hpl : (backTo pos (starEach [e2, e3] X.env)).any (·.1) = false := by exact pl_of rfl) : EV X Γ (.Call (.Name "Grammar" p) [e1, e2, e3] [] pos) (mkG signs start rs) :=
  ev_makeV (x := mkG signs start rs) T.o_Grammar (ok_Grammar_init T) (hr.mono hk) rfl ha (fun C hC ad dx P' R' h => ⟨C, ad, dx, signs, start, rs, rfl, hC, l1, l2, l3, hg, fun _ => h, fun y hy => by rw [hw] at hy; cases hy⟩) hgl (by decide) he hpl
end

/-! ### what is drawn makes a grammar -/
theorem sm_nodup : ∀ a < 26, ∀ st < 6, ∀ n < 5, ((List.range n).map fun k => 97 + (a + k * (1 + 2 * st)) % 26).Nodup := by decide +kernel
theorem smSigns_good (c : Int) : signsOk (smSigns c) = true := by
  have h1 := Int.emod_nonneg (c / 156) (by decide : (4 : Int) ≠ 0)
  have h2 := Int.emod_lt_of_pos (c / 156) (by decide : (0 : Int) < 4)
  have h3 := Int.emod_nonneg (c / 26) (by decide : (6 : Int) ≠ 0)
  have h4 := Int.emod_lt_of_pos (c / 26) (by decide : (0 : Int) < 6)
  have h5 := Int.emod_nonneg c (by decide : (26 : Int) ≠ 0)
  have h6 := Int.emod_lt_of_pos c (by decide : (0 : Int) < 26)
  have e : smSigns c = (List.range (1 + c / 156 % 4).toNat).map fun k => 97 + ((c % 26).toNat + k * (1 + 2 * (c / 26 % 6).toNat)) % 26 := by
    unfold smSigns smStep rng
    rw [List.map_map]
    refine List.map_congr_left fun k hk => ?_
    have hk4 : k < 4 := by have := List.mem_range.mp hk; omega
    show 97 + ((c + (0 + (k : Int)) * (1 + 2 * (c / 26 % 6))) % 26).toNat = 97 + ((c % 26).toNat + k * (1 + 2 * (c / 26 % 6).toNat)) % 26
    obtain ⟨a, ha⟩ : ∃ a : Nat, c % 26 = (a : Int) := ⟨(c % 26).toNat, by omega⟩
    obtain ⟨st, hst⟩ : ∃ s : Nat, c / 26 % 6 = (s : Int) := ⟨(c / 26 % 6).toNat, by omega⟩
    rw [ha, hst, Int.toNat_natCast, Int.toNat_natCast]
    rcases (by omega : k = 0 ∨ k = 1 ∨ k = 2 ∨ k = 3) with rfl | rfl | rfl | rfl <;> omega
  have hn := sm_nodup (c % 26).toNat (by omega) (c / 26 % 6).toNat (by omega) (1 + c / 156 % 4).toNat (by omega)
  have hl := smSigns_len (c := c)
  unfold signsOk
  rw [decide_eq_true hl.1, decide_eq_true hl.2, decide_eq_true (show (smSigns c).Nodup by rw [e]; exact hn)]
  rw [show ((smSigns c).all fun c => decide (c ∈ smallTx)) = true from List.all_eq_true.mpr fun x hx => decide_eq_true (smSigns_in x hx)]
  rfl
theorem badSign_of {signs : Tx} : ∀ {rs : List RuleD} {k : Nat}, (∀ r ∈ rs, r.signIn signs = true) → badSign signs k rs = none
  | [], _, _ => rfl
  | r :: rs, k, h => by
    unfold badSign
    rw [h r (List.mem_cons_self ..), if_pos rfl]
    exact badSign_of fun q hq => h q (List.mem_cons_of_mem _ hq)
theorem RuleD.of_in {signs : Tx} {r : RuleD} (h : r.of signs) : r.signIn signs = true := by
  cases r with
  | cell n c s =>
    obtain ⟨d, hd, rfl⟩ := h
    exact decide_eq_true hd
  | _ => rfl
theorem nodup_le2 {l : List Tx} : ∀ {m : List Tx}, l.Nodup → (∀ x ∈ l, x ∈ m) → l.length ≤ m.length := by
  induction l with
  | nil => intro m _ _; exact Nat.zero_le _
  | cons x l ih =>
    intro m nd sub
    rw [List.nodup_cons] at nd
    have hx := sub x (List.mem_cons_self ..)
    have h1 := ih (m := m.erase x) nd.2 fun y hy => (List.mem_erase_of_ne fun (e : y = x) => nd.1 (e ▸ hy)).mpr (sub y (List.mem_cons_of_mem _ hy))
    rw [List.length_erase_of_mem hx] at h1
    have := List.length_pos_of_mem hx
    rw [List.length_cons]
    omega
theorem addNew_nd {met : List Tx} {n : Tx} (h : met.Nodup) : (addNew met n).Nodup := by
  unfold addNew
  split
  · exact h
  · rename_i hn
    rw [List.nodup_append]
    refine ⟨h, by simp, fun a ha b hb e => ?_⟩
    rw [List.mem_singleton.mp hb] at e
    exact hn (e ▸ ha)
theorem addAll_nd : ∀ {ns met : List Tx}, met.Nodup → (ns.foldl addNew met).Nodup
  | [], _, h => h
  | n :: ns, met, h => addAll_nd (ns := ns) (addNew_nd h)
theorem metAll_nd : ∀ {rs : List RuleD} {met : List Tx}, met.Nodup → (rs.foldl metR met).Nodup
  | [], _, h => h
  | r :: rs, met, h => metAll_nd (rs := rs) (addAll_nd h)
theorem metL_nd (start : Tx) (rs : List RuleD) : (metL start rs).Nodup := metAll_nd (by simp)
theorem why_drawn {signs start : Tx} {names : List Tx} {rs : List RuleD} (h1 : signsOk signs = true) (h2 : isName start = true) (h3 : start ∈ names) (h4 : names.length ≤ 8) (h5 : rs.length ≤ 24) (h6 : ∀ r ∈ rs, r.of signs ∧ ∀ n ∈ r.name :: r.parts, n ∈ names) : whyG signs start rs = none := by
  have hb : badSign signs 0 rs = none := badSign_of fun r hr => RuleD.of_in (h6 r hr).1
  have hl : (metL start rs).length ≤ names.length := nodup_le2 (metL_nd _ _) fun x hx => by
    rcases metAll_mem.mp hx with z | ⟨r, hr, z⟩
    · rw [List.mem_singleton.mp z]; exact h3
    · exact (h6 r hr).2 x z
  unfold whyG
  rw [if_neg (by rw [h1]; decide), if_neg (by rw [h2]; decide)]
  unfold whyRules
  rw [if_neg (by omega), hb]
  show (if 8 < (metL start rs).length then _ else none) = none
  rw [if_neg (by omega)]
theorem cut_rows {A : Type} {xs : List A} {a b : Nat} : (cutL xs (some (a : Int)) (some (b : Int))).length ≤ b - a := by
  show ((xs.drop (HT.sIx xs.length 0 (some (a : Int)))).take (HT.sIx xs.length xs.length (some (b : Int)) - HT.sIx xs.length 0 (some (a : Int)))).length ≤ b - a
  rw [HT.sIx_nat, HT.sIx_nat, List.length_take]
  omega

/-! ### joined grammars -/
def oth (letter : Tx) (names : List Tx) : List (Tx × Tx) := names.zipIdx.map fun p => (p.1, letter ++ [65 + p.2])
theorem oth_keys {letter : Tx} {names : List Tx} : (oth letter names).map (·.1) = names := by
  unfold oth
  rw [List.map_map]
  exact List.zipIdx_map_fst 0 names
theorem oth_len {letter : Tx} {names : List Tx} : (oth letter names).length = names.length := by
  unfold oth
  rw [List.length_map, List.length_zipIdx]
theorem oth_look {letter : Tx} {names : List Tx} (nd : names.Nodup) {k : Nat} {n : Tx} (h : names[k]? = some n) : look (oth letter names) n = some (letter ++ [65 + k]) := by
  refine look_of_mem (by rw [oth_keys]; exact nd) ?_
  refine List.mem_map.mpr ⟨(n, k), ?_, rfl⟩
  rw [List.mk_mem_zipIdx_iff_getElem?]
  exact h
theorem oth_take {letter : Tx} {names : List Tx} (nd : names.Nodup) {k : Nat} {n : Tx} (h : names[k]? = some n) : put (oth letter (names.take k)) n (letter ++ [65 + k]) = oth letter (names.take (k + 1)) := by
  obtain ⟨hk, hn⟩ := List.getElem?_eq_some_iff.mp h
  have hnot : look (oth letter (names.take k)) n = none := by
    rw [look_none, oth_keys]
    intro hm
    obtain ⟨j, hj, e⟩ := List.mem_take_iff_getElem.mp hm
    have := (List.getElem_inj nd).mp (e.trans hn.symm)
    omega
  rw [put_new _ hnot, List.take_add_one, h]
  unfold oth
  rw [List.zipIdx_append, List.map_append]
  show _ = _ ++ [(n, letter ++ [65 + (0 + (names.take k).length)])]
  rw [List.length_take, Nat.min_eq_left (by omega), Nat.zero_add]
theorem oth_mem {letter : Tx} {names : List Tx} (nd : names.Nodup) {n : Tx} (h : n ∈ names) : ∃ k, k < names.length ∧ look (oth letter names) n = some (letter ++ [65 + k]) := by
  obtain ⟨k, hk, e⟩ := List.getElem_of_mem h
  exact ⟨k, hk, oth_look nd (by rw [List.getElem?_eq_getElem hk, e])⟩
theorem capAt : ∀ k : Nat, k < 26 → atI capTx (k : Int) = some (65 + k) := by decide +kernel
def jName : Tx := tx "J"
def jointL (a b way : Tx) : Option (List RuleD) :=
  if way = tx "either" then some [.turn jName 1 a 0, .turn jName 1 b 0] else
  if way = tx "beside" then some [.beside jName 1 a b] else
  if way = tx "above" then some [.above jName 1 a b] else none
def joinRules (g h : GramD) (rs : List RuleD) : List RuleD := rs ++ g.rules.map (RuleD.renamed (nmOf (oth (tx "F") g.names))) ++ h.rules.map (RuleD.renamed (nmOf (oth (tx "S") h.names)))
def joinSigns (x y : Tx) : Tx := x ++ y.filter fun c => decide (c ∉ x)
def joinG (g h : GramD) (rs : List RuleD) : GramD := mkG (joinSigns g.signs h.signs) jName (joinRules g h rs)
def tooBig (g h : GramD) (rs : List RuleD) : Bool := (decide (4 < (joinSigns g.signs h.signs).length) || decide (24 < (joinRules g h rs).length)) || decide (8 < 1 + g.names.length + h.names.length)
def TooManyX : Exn := ⟨"TooMany", "", .no⟩
def newNamesS : Tw.Spec := fun A P _ => ∃ (g : GramD) (x : Tx), A = [vl g, vl x] ∧ g.names.Nodup ∧ g.names.length ≤ 26 ∧ x.length ≤ 100 ∧ P (.own fun o => ∃ ad, o = ownD Tx repTx ad (oth x g.names))
def jointS : Tw.Spec := fun A P R => ∃ (a b way : Tx), A = [vl a, vl b, vl way] ∧ isName a = true ∧ isName b = true ∧ (∀ rs, jointL a b way = some rs → P (rn rs)) ∧ (jointL a b way = none → R NoRule)
/-- the first name's new one -/
abbrev fA : Tx := tx "FA"
abbrev sA : Tx := tx "SA"
def joinedS : Tw.Spec := fun A P R => ∃ (g h : GramD) (way : Tx), A = [vl g, vl h, vl way] ∧ g.Made ∧ h.Made ∧ (∀ rs, jointL fA sA way = some rs → tooBig g h rs = false → P (rv (joinG g h rs))) ∧ (∀ rs, jointL fA sA way = some rs → tooBig g h rs = true → R TooManyX) ∧ (jointL fA sA way = none → R NoRule)
theorem GramD.Made.nd {g : GramD} (h : g.Made) : g.names.Nodup := by
  rw [h.eq]; exact metL_nd _ _
theorem GramD.Made.first {g : GramD} (h : g.Made) : g.names[0]? = some g.start := by
  have : ∀ (rs : List RuleD) (met : List Tx) (x : Tx), met[0]? = some x → (rs.foldl metR met)[0]? = some x := by
    have h1 : ∀ (ns met : List Tx) (x : Tx), met[0]? = some x → (ns.foldl addNew met)[0]? = some x := fun ns => by
      induction ns with
      | nil => exact fun met x h => h
      | cons n ns ih => exact fun met x h => ih _ _ (by
          unfold addNew
          split
          · exact h
          · obtain ⟨h0, _⟩ := List.getElem?_eq_some_iff.mp h
            rw [List.getElem?_append_left h0]; exact h)
    intro rs
    induction rs with
    | nil => exact fun met x h => h
    | cons r rs ih => exact fun met x h => ih _ _ (h1 _ _ _ h)
  rw [h.eq]
  exact this _ [g.start] _ rfl
theorem GramD.Made.mem {g : GramD} (h : g.Made) {r : RuleD} (hr : r ∈ g.rules) : ∀ n ∈ r.name :: r.parts, n ∈ g.names := fun n hn => by
  rw [h.ok.nm]
  exact metAll_mem.mpr (.inr ⟨r, hr, hn⟩)
theorem new_name (letter : Nat) (hl : letter ∈ capTx) : ∀ k : Nat, k < 26 → isName [letter, 65 + k] = true := fun k hk => by
  have : ∀ k : Nat, k < 26 → decide (65 + k ∈ capTx) = true := by decide +kernel
  unfold isName
  simp only [List.all_cons, List.all_nil, List.length_cons, List.length_nil, decide_eq_true hl, this k hk]
  rfl
theorem renamed_parts {f : Tx → Tx} {r : RuleD} : (r.renamed f).name :: (r.renamed f).parts = (r.name :: r.parts).map f := by cases r <;> rfl
theorem renamed_sign {f : Tx → Tx} {r : RuleD} {signs : Tx} : (r.renamed f).signIn signs = r.signIn signs := by cases r <;> rfl
theorem renamed_good {f : Tx → Tx} {r : RuleD} (h : r.good = true) (hf : ∀ n ∈ r.name :: r.parts, isName (f n) = true) : (r.renamed f).good = true := by
  cases r <;> simp only [RuleD.good, RuleD.renamed, RuleD.name, RuleD.parts, Bool.and_eq_true, List.mem_cons, List.not_mem_nil, or_false, forall_eq_or_imp, forall_eq] at h hf ⊢ <;> simp_all
theorem nm_of {letter : Nat} (hl : letter ∈ capTx) {names : List Tx} (nd : names.Nodup) (h26 : names.length ≤ 26) {n : Tx} (h : n ∈ names) : isName (nmOf (oth [letter] names) n) = true ∧ nmOf (oth [letter] names) n ∈ (oth [letter] names).map (·.2) := by
  obtain ⟨k, hk, e⟩ := oth_mem (letter := [letter]) nd h
  unfold nmOf
  rw [e]
  exact ⟨new_name letter hl k (by omega), List.mem_map.mpr ⟨_, look_mem e, rfl⟩⟩
theorem jointL_parts {way : Tx} {rs : List RuleD} (h : jointL fA sA way = some rs) : rs.length ≤ 2 ∧ ∀ r ∈ rs, r.good = true ∧ (∀ signs, r.signIn signs = true) ∧ ∀ n ∈ r.name :: r.parts, n = jName ∨ n = fA ∨ n = sA := by
  have g1 : isName jName = true := by decide +kernel
  have g2 : isName fA = true := by decide +kernel
  have g3 : isName sA = true := by decide +kernel
  have c1 : costOk 1 = true := by decide
  unfold jointL at h
  split at h
  · cases h
    refine ⟨by decide, fun r hr => ?_⟩
    simp only [List.mem_cons, List.not_mem_nil, or_false] at hr
    rcases hr with rfl | rfl <;> refine ⟨by simp [RuleD.good, g1, g2, g3, c1], fun _ => rfl, fun n hn => ?_⟩ <;> simp only [RuleD.name, RuleD.parts, List.mem_cons, List.not_mem_nil, or_false] at hn <;> first | exact hn.elim .inl (fun h => .inr (.inl h)) | exact hn.elim .inl (fun h => .inr (.inr h))
  split at h
  · cases h
    refine ⟨by decide, fun r hr => ?_⟩
    simp only [List.mem_cons, List.not_mem_nil, or_false] at hr
    subst hr
    exact ⟨by simp [RuleD.good, g1, g2, g3, c1], fun _ => rfl, fun n hn => by simpa only [RuleD.name, RuleD.parts, List.mem_cons, List.not_mem_nil, or_false] using hn⟩
  split at h
  · cases h
    refine ⟨by decide, fun r hr => ?_⟩
    simp only [List.mem_cons, List.not_mem_nil, or_false] at hr
    subst hr
    exact ⟨by simp [RuleD.good, g1, g2, g3, c1], fun _ => rfl, fun n hn => by simpa only [RuleD.name, RuleD.parts, List.mem_cons, List.not_mem_nil, or_false] using hn⟩
  · cases h
theorem joint_cases {way : Tx} {rs : List RuleD} (h : jointL fA sA way = some rs) : (way = tx "either" ∧ rs = [.turn jName 1 fA 0, .turn jName 1 sA 0]) ∨ (way = tx "beside" ∧ rs = [.beside jName 1 fA sA]) ∨ (way = tx "above" ∧ rs = [.above jName 1 fA sA]) := by
  unfold jointL at h
  split at h
  · rename_i e; cases h; exact .inl ⟨e, rfl⟩
  split at h
  · rename_i e; cases h; exact .inr (.inl ⟨e, rfl⟩)
  split at h
  · rename_i e; cases h; exact .inr (.inr ⟨e, rfl⟩)
  · cases h
theorem joinSigns_ok {x y : Tx} (h1 : signsOk x = true) (h2 : signsOk y = true) (h : (joinSigns x y).length ≤ 4) : signsOk (joinSigns x y) = true := by
  unfold signsOk at h1 h2 ⊢
  simp only [Bool.and_eq_true, decide_eq_true_eq, List.all_eq_true] at h1 h2 ⊢
  refine ⟨⟨?_, h⟩, ?_, fun c hc => ?_⟩
  · unfold joinSigns; rw [List.length_append]; omega
  · unfold joinSigns
    rw [List.nodup_append]
    exact ⟨h1.2.1, h2.2.1.filter _, fun a ha b hb e => by
      have := (List.mem_filter.mp hb).2
      simp only [decide_eq_true_eq] at this
      exact this (e ▸ ha)⟩
  · unfold joinSigns at hc
    rcases List.mem_append.mp hc with z | z
    · exact h1.2.2 c z
    · exact h2.2.2 c (List.mem_filter.mp z).1
theorem joinSigns_mem {x y : Tx} {c : Nat} : c ∈ joinSigns x y ↔ c ∈ x ∨ c ∈ y := by
  unfold joinSigns
  rw [List.mem_append, List.mem_filter, decide_eq_true_eq]
  constructor
  · rintro (h | h)
    · exact .inl h
    · exact .inr h.1
  · rintro (h | h)
    · exact .inl h
    · by_cases z : c ∈ x
      · exact .inl z
      · exact .inr ⟨h, z⟩
theorem badSign_all {signs : Tx} : ∀ {rs : List RuleD} {k : Nat}, badSign signs k rs = none → ∀ r ∈ rs, r.signIn signs = true
  | [], _, _, _, h => nomatch h
  | r :: rs, k, h, q, hq => by
    unfold badSign at h
    split at h
    · rename_i hs
      rcases List.mem_cons.mp hq with rfl | hq
      · exact hs
      · exact badSign_all h q hq
    · cases h
theorem GramD.Made.sign {g : GramD} (h : g.Made) {r : RuleD} (hr : r ∈ g.rules) : r.signIn g.signs = true := by
  have hw := h.why
  have ok := h.ok
  unfold whyG at hw
  rw [if_neg (by rw [ok.sg]; decide), if_neg (by rw [ok.st]; decide)] at hw
  unfold whyRules at hw
  have := ok.many
  rw [if_neg (by omega)] at hw
  cases q : badSign g.signs 0 g.rules with
  | none => exact badSign_all q r hr
  | some k => rw [q] at hw; cases hw
theorem signIn_mono {r : RuleD} {x y : Tx} (h : r.signIn x = true) (hs : ∀ c ∈ x, c ∈ y) : r.signIn y = true := by
  cases r with
  | cell n c s => exact decide_eq_true (hs _ (of_decide_eq_true h))
  | _ => rfl
theorem capF : (70 : Nat) ∈ capTx := by decide +kernel
theorem capS : (83 : Nat) ∈ capTx := by decide +kernel
theorem joinRules_good {g h : GramD} (hg : g.Made) (hh : h.Made) {way : Tx} {rs : List RuleD} (hj : jointL fA sA way = some rs) : ∀ r ∈ joinRules g h rs, r.good = true ∧ (∀ signs, (∀ c, c ∈ g.signs ∨ c ∈ h.signs → c ∈ signs) → r.signIn signs = true) ∧ ∀ n ∈ r.name :: r.parts, n ∈ jName :: ((oth (tx "F") g.names).map (·.2) ++ (oth (tx "S") h.names).map (·.2)) := fun r hr => by
  have g8 := hg.ok.n8
  have h8 := hh.ok.n8
  unfold joinRules at hr
  rcases List.mem_append.mp hr with hr | hr
  · rcases List.mem_append.mp hr with hr | hr
    · obtain ⟨h1, h2, h3⟩ := (jointL_parts hj).2 r hr
      refine ⟨h1, fun s _ => h2 s, fun n hn => ?_⟩
      rcases h3 n hn with rfl | rfl | rfl
      · exact List.mem_cons_self ..
      · refine List.mem_cons_of_mem _ (List.mem_append_left _ ?_)
        exact List.mem_map.mpr ⟨_, look_mem (oth_look hg.nd hg.first), rfl⟩
      · refine List.mem_cons_of_mem _ (List.mem_append_right _ ?_)
        exact List.mem_map.mpr ⟨_, look_mem (oth_look hh.nd hh.first), rfl⟩
    · obtain ⟨q, hq, rfl⟩ := List.mem_map.mp hr
      refine ⟨renamed_good (hg.rs q hq) fun n hn => (nm_of capF hg.nd (by omega) (hg.mem hq n hn)).1, fun s hs => by rw [renamed_sign]; exact signIn_mono (hg.sign hq) fun c hc => hs c (.inl hc), fun n hn => ?_⟩
      rw [renamed_parts] at hn
      obtain ⟨m, hm, rfl⟩ := List.mem_map.mp hn
      exact List.mem_cons_of_mem _ (List.mem_append_left _ (nm_of capF hg.nd (by omega) (hg.mem hq m hm)).2)
  · obtain ⟨q, hq, rfl⟩ := List.mem_map.mp hr
    refine ⟨renamed_good (hh.rs q hq) fun n hn => (nm_of capS hh.nd (by omega) (hh.mem hq n hn)).1, fun s hs => by rw [renamed_sign]; exact signIn_mono (hh.sign hq) fun c hc => hs c (.inr hc), fun n hn => ?_⟩
    rw [renamed_parts] at hn
    obtain ⟨m, hm, rfl⟩ := List.mem_map.mp hn
    exact List.mem_cons_of_mem _ (List.mem_append_right _ (nm_of capS hh.nd (by omega) (hh.mem hq m hm)).2)
theorem joinG_why {g h : GramD} (hg : g.Made) (hh : h.Made) {way : Tx} {rs : List RuleD} (hj : jointL fA sA way = some rs) (hb : tooBig g h rs = false) : whyG (joinSigns g.signs h.signs) jName (joinRules g h rs) = none := by
  have all := joinRules_good hg hh hj
  unfold tooBig at hb
  simp only [Bool.or_eq_false_iff, decide_eq_false_iff_not] at hb
  obtain ⟨⟨b1, b2⟩, b3⟩ := hb
  have s1 := joinSigns_ok hg.ok.sg hh.ok.sg (by omega)
  have s2 : isName jName = true := by decide +kernel
  have hbs : badSign (joinSigns g.signs h.signs) 0 (joinRules g h rs) = none := badSign_of fun r hr => (all r hr).2.1 _ fun c hc => joinSigns_mem.mpr hc
  have hl : (metL jName (joinRules g h rs)).length ≤ (jName :: ((oth (tx "F") g.names).map (·.2) ++ (oth (tx "S") h.names).map (·.2))).length := nodup_le2 (metL_nd _ _) fun x hx => by
    rcases metAll_mem.mp hx with z | ⟨r, hr, z⟩
    · rw [List.mem_singleton.mp z]; exact List.mem_cons_self ..
    · exact (all r hr).2.2 x z
  rw [List.length_cons, List.length_append, List.length_map, List.length_map, oth_len, oth_len] at hl
  unfold whyG
  rw [if_neg (by rw [s1]; decide), if_neg (by rw [s2]; decide)]
  unfold whyRules
  rw [if_neg (by omega), hbs]
  show (if 8 < (metL jName (joinRules g h rs)).length then _ else none) = none
  rw [if_neg (by omega)]
theorem joinG_made {g h : GramD} (hg : g.Made) (hh : h.Made) {way : Tx} {rs : List RuleD} (hj : jointL fA sA way = some rs) (hb : tooBig g h rs = false) : (joinG g h rs).Made := GramD.Made.mk' (fun r hr => (joinRules_good hg hh hj r hr).1) (joinG_why hg hh hj hb)
theorem joint_has {way : Tx} {rs : List RuleD} (h : jointL fA sA way = some rs) : (∃ r ∈ rs, fA ∈ r.name :: r.parts) ∧ (∃ r ∈ rs, sA ∈ r.name :: r.parts) := by
  rcases joint_cases h with ⟨_, rfl⟩ | ⟨_, rfl⟩ | ⟨_, rfl⟩
  · exact ⟨⟨_, .head _, .tail _ (.head _)⟩, ⟨_, .tail _ (.head _), .tail _ (.head _)⟩⟩
  · exact ⟨⟨_, .head _, .tail _ (.head _)⟩, ⟨_, .head _, .tail _ (.tail _ (.head _))⟩⟩
  · exact ⟨⟨_, .head _, .tail _ (.head _)⟩, ⟨_, .head _, .tail _ (.tail _ (.head _))⟩⟩
theorem oth_vals {letter : Tx} {names : List Tx} : (oth letter names).map (·.2) = (List.range' 0 names.length).map fun k => letter ++ [65 + k] := by
  unfold oth
  rw [List.map_map, ← List.zipIdx_map_snd 0 names, List.map_map]
  rfl
theorem oth_vals_nd {letter : Tx} {names : List Tx} : ((oth letter names).map (·.2)).Nodup := by
  rw [oth_vals]
  refine List.pairwise_map.mpr ((List.nodup_range' (s := 0) (n := names.length)).imp fun {a b} n e => n ?_)
  have := List.append_cancel_left e
  simpa using this
theorem oth_vals_in {letter : Tx} {names : List Tx} {x : Tx} (h : x ∈ (oth letter names).map (·.2)) : ∃ k, x = letter ++ [65 + k] := by
  rw [oth_vals] at h
  obtain ⟨k, _, e⟩ := List.mem_map.mp h
  exact ⟨k, e.symm⟩
theorem new_met {letter : Tx} {g : GramD} (hg : g.Made) {rs : List RuleD} (h1 : ∃ r ∈ rs, (letter ++ [65]) ∈ r.name :: r.parts) (h2 : ∀ r ∈ g.rules, r.renamed (nmOf (oth letter g.names)) ∈ rs) {x : Tx} (hx : x ∈ (oth letter g.names).map (·.2)) : ∃ r ∈ rs, x ∈ r.name :: r.parts := by
  obtain ⟨⟨n, y⟩, hm, rfl⟩ := List.mem_map.mp hx
  have hl : look (oth letter g.names) n = some y := look_of_mem (by rw [oth_keys]; exact hg.nd) hm
  have hn : n ∈ (oth letter g.names).map (·.1) := List.mem_map.mpr ⟨_, hm, rfl⟩
  rw [oth_keys, hg.ok.nm] at hn
  rcases metAll_mem.mp hn with z | ⟨r, hr, z⟩
  · rw [List.mem_singleton.mp z, oth_look hg.nd hg.first] at hl
    obtain rfl := Option.some.inj hl
    exact h1
  · refine ⟨_, h2 r hr, ?_⟩
    rw [renamed_parts]
    refine List.mem_map.mpr ⟨n, z, ?_⟩
    unfold nmOf
    rw [hl]; rfl
theorem join_names {g h : GramD} (hg : g.Made) (hh : h.Made) {way : Tx} {rs : List RuleD} (hj : jointL fA sA way = some rs) : (joinG g h rs).names.length = 1 + g.names.length + h.names.length := by
  have all := joinRules_good hg hh hj
  obtain ⟨⟨r1, i1, e1⟩, ⟨r2, i2, e2⟩⟩ := joint_has hj
  have m0 : ∀ r ∈ rs, r ∈ joinRules g h rs := fun r hr => List.mem_append_left _ (List.mem_append_left _ hr)
  have up : (metL jName (joinRules g h rs)).length ≤ (jName :: ((oth (tx "F") g.names).map (·.2) ++ (oth (tx "S") h.names).map (·.2))).length := nodup_le2 (metL_nd _ _) fun x hx => by
    rcases metAll_mem.mp hx with z | ⟨r, hr, z⟩
    · rw [List.mem_singleton.mp z]; exact List.mem_cons_self ..
    · exact (all r hr).2.2 x z
  have nd : (jName :: ((oth (tx "F") g.names).map (·.2) ++ (oth (tx "S") h.names).map (·.2))).Nodup := by
    rw [List.nodup_cons, List.nodup_append]
    refine ⟨fun hm => ?_, oth_vals_nd, oth_vals_nd, fun a ha b hb e => ?_⟩
    · rcases List.mem_append.mp hm with z | z
      · obtain ⟨k, e⟩ := oth_vals_in z; cases e
      · obtain ⟨k, e⟩ := oth_vals_in z; cases e
    · obtain ⟨k, e1⟩ := oth_vals_in ha
      obtain ⟨k', e2⟩ := oth_vals_in hb
      rw [e1, e2] at e
      cases e
  have low : (jName :: ((oth (tx "F") g.names).map (·.2) ++ (oth (tx "S") h.names).map (·.2))).length ≤ (metL jName (joinRules g h rs)).length := nodup_le2 nd fun x hx => by
    rcases List.mem_cons.mp hx with rfl | hx
    · exact metAll_mem.mpr (.inl (List.mem_singleton.mpr rfl))
    · refine metAll_mem.mpr (.inr ?_)
      rcases List.mem_append.mp hx with z | z
      · exact new_met hg ⟨r1, m0 r1 i1, e1⟩ (fun r hr => List.mem_append_left _ (List.mem_append_right _ (List.mem_map.mpr ⟨r, hr, rfl⟩))) z
      · exact new_met hh ⟨r2, m0 r2 i2, e2⟩ (fun r hr => List.mem_append_right _ (List.mem_map.mpr ⟨r, hr, rfl⟩)) z
  show (metL jName (joinRules g h rs)).length = _
  rw [List.length_cons, List.length_append, List.length_map, List.length_map, oth_len, oth_len] at up low
  omega
theorem joint_none {way : Tx} : jointL fA sA way = none ↔ way ∉ [tx "either", tx "beside", tx "above"] := by
  unfold jointL
  simp only [List.mem_cons, List.not_mem_nil, or_false, not_or]
  split
  · rename_i h; simp [h]
  split
  · rename_i h; simp [h]
  split
  · rename_i h; simp [h]
  · rename_i h1 h2 h3; simp [h1, h2, h3]
theorem join_filter (y : Tx) (s : Tx) : joinL (tx "") (((y.map fun c => ([c] : Tx)).filter fun t => !decide (t.headD 0 ∈ s)).map fun t => t) = y.filter fun c => decide (c ∉ s) := by
  rw [List.map_id' _, List.filter_map]
  have := joinOnes (y.filter ((fun t : Tx => !decide (t.headD 0 ∈ s)) ∘ fun c => ([c] : Tx))) fun c => c
  show joinL [] _ = _
  rw [this, List.map_id' _]
  congr 1
  funext c
  show (!decide (c ∈ s)) = decide (c ∉ s)
  simp
section
variable {P : Program} {w : World} {K : PySem.W.Frag} {mg : Str → Option Value} {base : Heap}
theorem ok_new_names (T : Txt K mg) : Has P w K mg base 3 "new_names" ["grammar", "letter"] newNamesS := by
  refine Has.of T.f_new_names sc_new_names (fun A Q R ⟨g, x, e, _⟩ => by rw [e]; rfl) fun f cdv A outer s0 H E hr Γ Q R ⟨g, x, e, nd, h26, hx, hq⟩ => ?_
  subst e
  refine st_setD (α := Tx) Tx repTx 2 (fun ad => ?_) sc_new_names.nd
  refine st_for (fun k Γ => Le Γ [vl g, vl x, .own (ownD Tx repTx ad (oth x (g.names.take k))), .no, .no]) (src_enum (xs := g.names) T.b_enumerate (ev_of_en (en_meth0 (x := g) T.o_Grammar (ok_Grammar_names T) (hr.mono (by decide)) rfl (lk rfl) (ev_var 0) fun P' R' h => ⟨g, rfl, h⟩))) (tg_pair 3 4 (by decide)) Le.refl (fun k y Γ' hk hP => ?_) (fun Γ' hP => ?_) (pg2 3 4 (pgn 3 sc_new_names.nd) (pgn 4 sc_new_names.nd))
  · obtain ⟨kk, n⟩ := y
    obtain ⟨e1, hn⟩ := enumL_get hk
    subst e1
    have hkl : k < g.names.length := (List.getElem?_eq_some_iff.mp hn).1
    refine st_le (Le.set (Le.set hP 3 _) 4 _) ?_
    refine st_dput hr 2 (ad := ad) (l := oth x (g.names.take k)) (x := n) (y := x ++ [65 + k]) (ev_bin (o_addS (sl_small (by rw [List.length_cons, List.length_nil]; omega))) (ev_var 1) (ev_ixS (x := capTx) (ev_gstrE T.c_CAPITALS) (ev_var 3) (capAt k (by omega)) (sl_small (by decide)))) (ev_var 4) (lt_line (by rw [oth_len, List.length_take]; omega)) (st_nil ?_)
    rw [oth_take nd hn]
    exact le_cons (le_cons (le_cons (le_no (le_no le_nil))))
  · rw [enumL_len, List.take_length] at hP
    exact st_le hP (st_retO 2 hq ⟨ad, rfl⟩)
theorem ok_joint_rules (T : Txt K mg) : Has P w K mg base 6 "joint_rules" ["one", "other", "way"] jointS := by
  refine Has.ofX T.f_joint_rules sc_joint_rules (fun A Q R ⟨a, b, way, e, _⟩ => by rw [e]; rfl) fun f cdv A outer s0 H E hr Γ Q R ⟨a, b, way, e, ga, gb, h1, h2⟩ => ?_
  subst e
  have gJ : isName (tx "J") = true := by decide +kernel
  have lJ : (tx "J").length ≤ 1000 := by decide
  have c1 : costOk 1 = true := by decide
  have la := isName_len ga
  have lb := isName_len gb
  refine st_if (et_cmp o_eqS (ev_var 2) (ev_str "either")) (fun h => ?_) (fun h => st_nil ?_)
  · have h' := of_decide_eq_true h
    exact st_retE (xs := [RuleD.turn (tx "J") 1 a 0, RuleD.turn (tx "J") 1 b 0]) (en_lst (es_cons (ev_good (mkx_turn T hr (ea_cons (ev_gstrE T.c_JOINT) (ea_cons (x := (1 : Int)) ev_int (ea_cons (ev_var 0) (ea_cons (x := (0 : Int)) ev_int ea_nil)))) lJ (by omega)) (by simp [RuleD.good, gJ, ga, c1]))
      (es_cons (ev_good (mkx_turn T hr (ea_cons (ev_gstrE T.c_JOINT) (ea_cons (x := (1 : Int)) ev_int (ea_cons (ev_var 1) (ea_cons (x := (0 : Int)) ev_int ea_nil)))) lJ (by omega)) (by simp [RuleD.good, gJ, gb, c1])) es_nil))) (h1 _ (by unfold jointL; rw [if_pos h']; rfl))
  have h3 := of_decide_eq_false h
  refine st_if (et_cmp o_eqS (ev_var 2) (ev_str "beside")) (fun h => ?_) (fun h => st_nil ?_)
  · have h' := of_decide_eq_true h
    exact st_retE (xs := [RuleD.beside (tx "J") 1 a b]) (en_lst (es_cons (ev_good (mkx_beside T hr (ea_cons (ev_gstrE T.c_JOINT) (ea_cons (x := (1 : Int)) ev_int (ea_cons (ev_var 0) (ea_cons (ev_var 1) ea_nil)))) lJ (by omega) (by omega)) (by simp [RuleD.good, gJ, ga, gb, c1])) es_nil)) (h1 _ (by unfold jointL; rw [if_neg h3, if_pos h']; rfl))
  have h4 := of_decide_eq_false h
  refine st_if (et_cmp o_eqS (ev_var 2) (ev_str "above")) (fun h => ?_) (fun h => st_nil ?_)
  · have h' := of_decide_eq_true h
    exact st_retE (xs := [RuleD.above (tx "J") 1 a b]) (en_lst (es_cons (ev_good (mkx_above T hr (ea_cons (ev_gstrE T.c_JOINT) (ea_cons (x := (1 : Int)) ev_int (ea_cons (ev_var 0) (ea_cons (ev_var 1) ea_nil)))) lJ (by omega) (by omega)) (by simp [RuleD.good, gJ, ga, gb, c1])) es_nil)) (h1 _ (by unfold jointL; rw [if_neg h3, if_neg h4, if_pos h']; rfl))
  have h5 := of_decide_eq_false h
  exact st_raise0 T.x_NoRule T.p_NoRule (h2 (by unfold jointL; rw [if_neg h3, if_neg h4, if_neg h5]))
theorem ok_joined (T : Txt K mg) : Has P w K mg base 8 "joined" ["one", "other", "way"] joinedS := by
  refine Has.ofX T.f_joined sc_joined (fun A Q R ⟨g, h, way, e, _⟩ => by rw [e]; rfl) fun f cdv A outer s0 H E hr Γ Q R ⟨g, h, way, e, hg, hh, h1, h2, h3⟩ => ?_
  subst e
  have okg := hg.ok
  have okh := hh.ok
  have n1 := okg.n8
  have n2 := okh.n8
  have r1 := okg.many
  have r2 := okh.many
  have sg1 := signsOk_len okg.sg
  have sg2 := signsOk_len okh.sg
  refine st_setO 3 (ex_call (ok_new_names T) (hr.mono (by decide)) (ea_cons (ev_var 0) (ea_cons (x := tx "F") (ev_gstrE T.c_FIRST) ea_nil)) fun P' R' z => ⟨g, tx "F", rfl, hg.nd, by omega, by decide, z _ rfl⟩) (fun o ho => ?_) sc_joined.nd
  obtain ⟨ad1, rfl⟩ := ho
  refine st_freeze 3 (x := Dic.mk (oth (tx "F") g.names)) frozD ?_
  refine st_setO 4 (ex_call (ok_new_names T) (hr.mono (by decide)) (ea_cons (ev_var 1) (ea_cons (x := tx "S") (ev_gstrE T.c_SECOND) ea_nil)) fun P' R' z => ⟨h, tx "S", rfl, hh.nd, by omega, by decide, z _ rfl⟩) (fun o ho => ?_) sc_joined.nd
  obtain ⟨ad2, rfl⟩ := ho
  refine st_freeze 4 (x := Dic.mk (oth (tx "S") h.names)) frozD ?_
  have lkF : look (oth (tx "F") g.names) g.start = some fA := oth_look hg.nd hg.first
  have lkS : look (oth (tx "S") h.names) h.start = some sA := oth_look hh.nd hh.first
  have gF : isName fA = true := by decide +kernel
  have gS : isName sA = true := by decide +kernel
  cases hj : jointL fA sA way with
  | none =>
    exact st_setR (R := fun y => y = NoRule) 5 (exx_call (ok_joint_rules T) (hr.mono (by decide)) (ea_cons (x := fA) (ev_dget hr (ev_var 3) (ev_fld (x := g) (y := g.start) T.o_Grammar T.a_Grammar_start rfl rfl (ev_var 0)) lkF) (ea_cons (x := sA) (ev_dget hr (ev_var 4) (ev_fld (x := h) (y := h.start) T.o_Grammar T.a_Grammar_start rfl rfl (ev_var 1)) lkS) (ea_cons (ev_var 2) ea_nil))) fun P' R' _ z => ⟨fA, sA, way, rfl, gF, gS, fun rs' q => by (rw [hj] at q; cases q), fun _ => z _ rfl⟩) (fun y e => e ▸ h3 hj) sc_joined.nd
  | some rs =>
    have hrs := (jointL_parts hj).1
    refine st_setN 5 (xs := rs) (en_call (ok_joint_rules T) (hr.mono (by decide)) (ea_cons (x := fA) (ev_dget hr (ev_var 3) (ev_fld (x := g) (y := g.start) T.o_Grammar T.a_Grammar_start rfl rfl (ev_var 0)) lkF) (ea_cons (x := sA) (ev_dget hr (ev_var 4) (ev_fld (x := h) (y := h.start) T.o_Grammar T.a_Grammar_start rfl rfl (ev_var 1)) lkS) (ea_cons (ev_var 2) ea_nil))) fun P' R' z => ⟨fA, sA, way, rfl, gF, gS, fun rs' q => by (rw [hj] at q; cases q; exact z), fun q => by rw [hj] at q; cases q⟩) (fun ad => ?_) sc_joined.nd
    have vals : ∀ (x : Nat) (names : List Tx), ∀ p ∈ oth [x] names, p.2.length ≤ 1000 := fun x names p hp => by
      unfold oth at hp
      obtain ⟨z, _, rfl⟩ := List.mem_map.mp hp
      show 2 ≤ 1000
      decide
    refine st_extend 5 (ad := ad) (xs := rs) (ys := g.rules.map (RuleD.renamed (nmOf (oth (tx "F") g.names)))) (en_lc (α := RuleD) (β := RuleD) (own := [("rule", 8)]) (f := RuleD.renamed (nmOf (oth (tx "F") g.names))) (src_list (xs := g.rules) (ev_of_en (en_meth0 (x := g) T.o_Grammar (ok_Grammar_rules T) (hr.mono (by decide)) rfl (lk rfl) (ev_var 0) fun P' R' z => ⟨g, rfl, z⟩))) (tg_name 8) (fun _ _ _ _ _ => pgn 8 sc_joined.nd)
      (fun r hr' _ _ _ _ _ => ev_of_ex (ex_of_exx (exx_meth (o_cls T r) (ok_renamed T r) (hr.mono (by decide)) rfl (RuleD.f_renamed r) (ev_var 8) (ea_cons (ev_var 3) ea_nil) fun P' R' z _ => ⟨r, oth (tx "F") g.names, rfl, rfl, hg.rs r hr', vals 70 g.names, fun _ => z _ rfl, fun q => Bool.noConfusion ((renamed_good (hg.rs r hr') fun n hn => (nm_of capF hg.nd (by omega) (hg.mem hr' n hn)).1).symm.trans q)⟩))) sc_joined.nd (ok := bk_joined (by decide +kernel)) (hz := sl_small (by omega))) ?_ (sl_small (by rw [List.length_map]; omega))
    refine st_extend 5 (ad := ad) (xs := rs ++ g.rules.map (RuleD.renamed (nmOf (oth (tx "F") g.names)))) (ys := h.rules.map (RuleD.renamed (nmOf (oth (tx "S") h.names)))) (en_lc (α := RuleD) (β := RuleD) (own := [("rule", 8)]) (f := RuleD.renamed (nmOf (oth (tx "S") h.names))) (src_list (xs := h.rules) (ev_of_en (en_meth0 (x := h) T.o_Grammar (ok_Grammar_rules T) (hr.mono (by decide)) rfl (lk rfl) (ev_var 1) fun P' R' z => ⟨h, rfl, z⟩))) (tg_name 8) (fun _ _ _ _ _ => pgn 8 sc_joined.nd)
      (fun r hr' _ _ _ _ _ => ev_of_ex (ex_of_exx (exx_meth (o_cls T r) (ok_renamed T r) (hr.mono (by decide)) rfl (RuleD.f_renamed r) (ev_var 8) (ea_cons (ev_var 4) ea_nil) fun P' R' z _ => ⟨r, oth (tx "S") h.names, rfl, rfl, hh.rs r hr', vals 83 h.names, fun _ => z _ rfl, fun q => Bool.noConfusion ((renamed_good (hh.rs r hr') fun n hn => (nm_of capS hh.nd (by omega) (hh.mem hr' n hn)).1).symm.trans q)⟩))) sc_joined.nd (ok := bk_joined (by decide +kernel)) (hz := sl_small (by omega))) ?_ (sl_small (by rw [List.length_append, List.length_map, List.length_map]; omega))
    refine st_freeze 5 (x := joinRules g h rs) frozL ?_
    have jl : (joinRules g h rs).length ≤ 100 := by
      unfold joinRules
      rw [List.length_append, List.length_append, List.length_map, List.length_map]
      omega
    have fl : (h.signs.filter fun c => decide (c ∉ g.signs)).length ≤ 4 := Nat.le_trans (List.length_filter_le ..) sg2.2
    have sl : (joinSigns g.signs h.signs).length ≤ 8 := by
      unfold joinSigns
      rw [List.length_append]
      omega
    refine st_set 6 (x := joinSigns g.signs h.signs) (ev_bin (o_addS (x := g.signs) (y := h.signs.filter fun c => decide (c ∉ g.signs)) (sl_small (by omega))) (ev_fld (x := g) (y := g.signs) T.o_Grammar T.a_Grammar_signs rfl rfl (ev_var 0)) (ev_eq (ev_join (ev_str "") (ev_of_en (en_lcIf (α := Tx) (β := Tx) (own := [("sign", 9)]) (f := fun y => y) (q := fun y => !decide (y.headD 0 ∈ g.signs)) (src_str (x := h.signs) (ev_fld (x := h) (y := h.signs) T.o_Grammar T.a_Grammar_signs rfl rfl (ev_var 1))) (tg_name 9) (fun _ _ _ _ _ => pgn 9 sc_joined.nd)
      (fun y hy _ _ _ _ _ => ?_) (fun y hy _ _ _ _ _ _ => ev_var 9) sc_joined.nd (ok := bk_joined (by decide +kernel)) (hz := by rw [List.length_map]; exact sl_small (by omega)))) ?_) (join_filter _ _))) ?_ sc_joined.nd
    · obtain ⟨c, _, rfl⟩ := List.mem_map.mp hy
      exact et_cmp (o_notInS (c := c)) (ev_var 9) (ev_fld (x := g) (y := g.signs) T.o_Grammar T.a_Grammar_signs rfl rfl (ev_var 0))
    · rw [show (tx "").length = 0 from rfl, Nat.mul_zero, Nat.add_zero]
      refine Nat.le_trans (sum_len (b := 1) fun x hx => ?_) ?_
      · obtain ⟨z, hz, rfl⟩ := List.mem_map.mp hx
        obtain ⟨c, _, rfl⟩ := List.mem_map.mp (List.mem_filter.mp hz).1
        exact Nat.le_refl _
      · have := List.length_filter_le (fun y : Tx => !decide (y.headD 0 ∈ g.signs)) (h.signs.map fun c => ([c] : Tx))
        rw [List.length_map] at this ⊢
        omega
    refine st_set 7 (x := 1 + (g.names.length : Int) + (h.names.length : Int)) (ev_bin o_add (ev_bin o_add ev_int (ev_len T.b_len (ev_of_en (en_meth0 (x := g) (ys := g.names) T.o_Grammar (ok_Grammar_names T) (hr.mono (by decide)) rfl (lk rfl) (ev_var 0) fun P' R' z => ⟨g, rfl, z⟩)))) (ev_len T.b_len (ev_of_en (en_meth0 (x := h) (ys := h.names) T.o_Grammar (ok_Grammar_names T) (hr.mono (by decide)) rfl (lk rfl) (ev_var 1) fun P' R' z => ⟨h, rfl, z⟩)))) ?_ sc_joined.nd
    refine st_if (k := tooBig g h rs) (et_eq (et_or3 (et_cmp o_gt (ev_lenS T.b_len (ev_var 6) (sl_small (by omega))) (ev_gintE T.c_MOST_SIGNS)) (fun _ => et_cmp o_gt (ev_len T.b_len (ev_var 5)) (ev_gintE T.c_MOST_RULES)) (fun _ _ => et_cmp o_gt (ev_var 7) (ev_gintE T.c_MOST_NAMES))) ?_) (fun hb => ?_) (fun hb => st_nil ?_)
    · unfold tooBig
      rw [Bool.eq_iff_iff]
      simp only [Bool.or_eq_true, decide_eq_true_eq]
      omega
    · exact st_raise0 T.x_TooMany T.p_TooMany (h2 rs hj hb)
    · exact st_retV (ev_mkG T hr (ea_cons (ev_var 6) (ea_cons (x := jName) (ev_gstrE T.c_JOINT) (ea_cons (ev_var 5) ea_nil))) (fun r hr' => (joinRules_good hg hh hj r hr').1) (joinG_why hg hh hj hb) (by omega) (by decide) (by omega)) (h1 rs hj hb)
end

/-! ### grammars as tuples: signs, start, rows -/
structure Told where
  s : Tx
  st : Tx
  rows : List Row
instance : HetT Told := ⟨fun t => [vl t.s, vl t.st, vl t.rows]⟩
def Told.g (t : Told) : GramD := mkG t.s t.st (rowsR t.rows)
def Row.ren (f : Tx → Tx) (q : Row) : Row := ⟨q.r.renamed f⟩
theorem Told.good {t : Told} (h : t.g.Made) : ∀ q ∈ t.rows, q.r.good = true := fun q hq => h.rs q.r (List.mem_map.mpr ⟨q, hq, rfl⟩)
theorem Told.rl {t : Told} : t.g.rules.length = t.rows.length := List.length_map ..
theorem gram_lens {g : GramD} (hm : g.Made) : g.rules.length ≤ 100 ∧ g.signs.length ≤ 900 ∧ g.start.length ≤ 900 ∧ ∀ r ∈ g.rules, r.good = true := by
  have ok := hm.ok
  have a := ok.many
  have b := signsOk_len ok.sg
  have c := isName_len ok.st
  exact ⟨by omega, by omega, by omega, ok.rs⟩
theorem met_le {start : Tx} {names : List Tx} {rs : List RuleD} (h3 : start ∈ names) (h6 : ∀ r ∈ rs, ∀ n ∈ r.name :: r.parts, n ∈ names) : (metL start rs).length ≤ names.length := nodup_le2 (metL_nd _ _) fun x hx => by
  rcases metAll_mem.mp hx with z | ⟨r, hr, z⟩
  · rw [List.mem_singleton.mp z]; exact h3
  · exact h6 r hr x z
theorem signsOk_take {x : Tx} {k : Nat} (h : signsOk x = true) (hk : 1 ≤ k) : signsOk (x.take k) = true := by
  unfold signsOk at h ⊢
  simp only [Bool.and_eq_true, decide_eq_true_eq, List.all_eq_true] at h ⊢
  refine ⟨⟨?_, ?_⟩, (List.take_sublist k x).nodup h.2.1, fun c hc => h.2.2 c (List.mem_of_mem_take hc)⟩ <;> rw [List.length_take] <;> omega
theorem par_len (b : Nat) : ∀ (xs : List Int) (s : Nat), 2 * ((xs.zipIdx s).filter fun x => decide ((x.2 : Int) % 2 = (b : Int))).length ≤ xs.length + (if s % 2 = b then 1 else 0)
  | [], s => by simp
  | x :: r, s => by
    have ih := par_len b r (s + 1)
    rw [List.zipIdx_cons, List.filter_cons, List.length_cons]
    by_cases hs : s % 2 = b
    · have h1 : decide (((s : Nat) : Int) % 2 = (b : Int)) = true := decide_eq_true (by omega)
      rw [if_pos hs]
      show 2 * (if decide (((s : Nat) : Int) % 2 = (b : Int)) = true then _ else _ : List (Int × Nat)).length ≤ _
      rw [if_pos h1, List.length_cons]
      rw [if_neg (by omega)] at ih
      omega
    · have h1 : ¬ decide (((s : Nat) : Int) % 2 = (b : Int)) = true := fun h => hs (by have := of_decide_eq_true h; omega)
      rw [if_neg hs]
      show 2 * (if decide (((s : Nat) : Int) % 2 = (b : Int)) = true then _ else _ : List (Int × Nat)).length ≤ _
      rw [if_neg h1]
      split at ih <;> omega
def halfL (xs : List Int) (b : Nat) : List Int := ((enumL xs).filter fun x => decide (x.1 % 2 = (b : Int))).map fun x => x.2
theorem half_len {xs : List Int} {b m : Nat} (h : xs.length ≤ 2 * m) : (halfL xs b).length ≤ m := by
  unfold halfL enumL
  rw [List.length_map, List.filter_map, List.length_map]
  have := par_len b xs 0
  have e : (xs.zipIdx.filter ((fun x : Int × Int => decide (x.1 % 2 = (b : Int))) ∘ fun p : Int × Nat => (((p.2 : Nat) : Int), p.1))) = (xs.zipIdx 0).filter fun x => decide ((x.2 : Int) % 2 = (b : Int)) := rfl
  rw [e]
  split at this <;> omega
def gram44S : Tw.Spec := fun A P _ => ∃ (t : Told), A = [vl t] ∧ t.g.Made ∧ P (rv t.g)
section
variable {P : Program} {w : World} {K : PySem.W.Frag} {mg : Str → Option Value} {base : Heap}
end

/-! ### law k45 -/
def sizesG (g h : GramD) (rs : List RuleD) : List Int := [((joinSigns g.signs h.signs).length : Int), ((joinRules g h rs).length : Int), ((joinG g h rs).names.length : Int)]
def asked45S : Tw.Spec := fun A P _ => ∃ (g h : GramD) (way : Tx), A = [vl g, vl h, vl way] ∧ g.Made ∧ h.Made ∧ (∀ rs, jointL fA sA way = some rs → tooBig g h rs = false → P (rn (sizesG g h rs))) ∧ (∀ rs, jointL fA sA way = some rs → tooBig g h rs = true → P (rn ([true, false, true, false] : List Bool))) ∧ (jointL fA sA way = none → P (rn ([true, true, false, false] : List Bool)))
def one45S : Tw.Spec := fun A P _ => ∃ (s : Scr) (b : Int) (cells : List Int), A = [vl s, vl b, vl cells] ∧ s.l.length ≤ 63 ∧ 0 ≤ b ∧ cells.length ≤ 14 ∧ ∀ t : Told, t.g.Made → t.rows.length ≤ 14 → P (rv t)
def way45S : Tw.Spec := fun A P _ => ∃ (c : Int), A = [vl c] ∧ ∀ x : Tx, x.length ≤ 100 → P (rv x)
def ways45 : List Tx := [tx "", tx "Either", tx "eithe", tx "beside ", tx "ABOVE", tx "|", tx "/", tx "or", tx "above/beside", tx "both"]
def join3 : List Tx := [tx "either", tx "beside", tx "above"]
theorem signsOk_nd {x : Tx} (h : signsOk x = true) : x.Nodup := by
  unfold signsOk at h
  simp only [Bool.and_eq_true, decide_eq_true_eq] at h
  exact h.2.1
section
variable {P : Program} {w : World} {K : PySem.W.Frag} {mg : Str → Option Value} {base : Heap}
theorem ok_law_way (T : Txt K mg) : Has P w K mg base 1 "_law_way" ["_law_cell_here"] way45S := by
  refine Has.of T.f_law_way sc_law_way (fun A Q R ⟨c, e, _⟩ => by rw [e]; rfl) fun f cdv A outer s0 H E hr Γ Q R ⟨c, e, hq⟩ => ?_
  subst e
  refine st_setN 1 (xs := ways45) (en_lst (es_cons (ev_str "") (es_cons (ev_str "Either") (es_cons (ev_str "eithe") (es_cons (ev_str "beside ") (es_cons (ev_str "ABOVE") (es_cons (ev_str "|") (es_cons (ev_str "/") (es_cons (ev_str "or") (es_cons (ev_str "above/beside") (es_cons (ev_str "both") es_nil)))))))))) (hz := sl_small (Nat.le_of_ble_eq_true rfl))) (fun ad => ?_) sc_law_way.nd
  refine st_freeze 1 frozL ?_
  have short : ∀ x ∈ ways45 ++ join3, x.length ≤ 100 := by decide +kernel
  obtain ⟨x, a1, i1⟩ := list_atI (xs := ways45) (n := c / 3 % 10) (Int.emod_nonneg _ (by decide)) (Int.emod_lt_of_pos _ (by decide))
  obtain ⟨y, a2, i2⟩ := list_atI (xs := join3) (n := c / 3 % 3) (Int.emod_nonneg _ (by decide)) (Int.emod_lt_of_pos _ (by decide))
  refine st_if (et_cmp o_eq (ev_bin (o_mod (by decide)) (ev_var 0) ev_int) ev_int) (fun _ => ?_) (fun _ => st_nil ?_)
  · exact st_retV (ev_ixL (xs := ways45) (ev_var 1) (ev_bin (o_mod (by decide)) (ev_bin (o_div divK) (ev_var 0) ev_int) ev_int) a1) (hq _ (short _ (List.mem_append_left _ i1)))
  · exact st_retV (ev_ixL (xs := join3) (ev_of_en (en_lst (es_cons (ev_str "either") (es_cons (ev_str "beside") (es_cons (ev_str "above") es_nil))) (hz := sl_small (Nat.le_of_ble_eq_true rfl)))) (ev_bin (o_mod (by decide)) (ev_bin (o_div divK) (ev_var 0) ev_int) ev_int) a2) (hq _ (short _ (List.mem_append_right _ i2)))
theorem ok_law_asked (T : Txt K mg) : Has P w K mg base 10 "_law_asked" ["_law_one_here", "_law_other", "_law_way_here"] asked45S := by
  refine Has.of T.f_law_asked sc_law_asked (fun A Q R ⟨g, h, way, e, _⟩ => by rw [e]; rfl) fun f cdv A outer s0 H E hr Γ Q R ⟨g, h, way, e, hg, hh, h1, h2, h3⟩ => ?_
  subst e
  refine st_set 3 ev_non ?_ sc_law_asked.nd
  refine st_set 4 ev_non ?_ sc_law_asked.nd
  refine st_try 5 sc_law_asked.nd T.x_QuiltError fun pn xe hpass => ?_
  cases hj : jointL fA sA way with
  | none =>
    refine st_setR 4 (R := fun y => y = NoRule) (exx_call (ok_joined T) (hr.mono (by decide)) (ea_cons (ev_var 0) (ea_cons (ev_var 1) (ea_cons (ev_var 2) ea_nil))) fun P' R' _ z => ⟨g, h, way, rfl, hg, hh, fun rs' q => (by rw [hj] at q; cases q), fun rs' q => (by rw [hj] at q; cases q), fun _ => z _ rfl⟩) (fun y e => ?_) sc_law_asked.nd
    subst e
    refine .inl ⟨T.s_NoRule_QuiltError, fun a pn => ?_⟩
    refine st_set 3 (x := (⟨"NoRule"⟩ : Err)) (ev_var 5) (st_nil ?_) sc_law_asked.nd
    refine st_if (k := false) (et_cmp o_isNo (ev_var 3) ev_non) (fun h => nomatch h) (fun _ => st_nil ?_)
    refine st_setN 6 (xs := [true, true, false]) (en_lst (es_cons (ev_isiEB (α := Err) "ValueError" T.b_isinstance T.b_ValueError T.x_NoRule T.t_NoRule_ValueError (ev_var 3)) (es_cons (ev_isiE (α := Err) T.b_isinstance T.x_NoRule T.x_NoRule T.s_NoRule_NoRule (ev_var 3)) (es_cons (ev_isiE (α := Err) T.b_isinstance T.x_NoRule T.x_TooMany T.s_NoRule_TooMany (ev_var 3)) es_nil)))) (fun ad => ?_) sc_law_asked.nd
    refine st_freeze 6 frozL ?_
    exact st_retE (xs := [true, true, false] ++ [false]) (en_addL (ev_var 6) (ev_of_en (en_lst (es_cons (ev_isiE (α := Err) T.b_isinstance T.x_NoRule T.x_NoGrammar T.s_NoRule_NoGrammar (ev_var 3)) es_nil))) (sl_small (by decide))) (h3 hj)
  | some rs =>
    cases hb : tooBig g h rs with
    | true =>
      refine st_setR 4 (R := fun y => y = TooManyX) (exx_call (ok_joined T) (hr.mono (by decide)) (ea_cons (ev_var 0) (ea_cons (ev_var 1) (ea_cons (ev_var 2) ea_nil))) fun P' R' _ z => ⟨g, h, way, rfl, hg, hh, fun rs' q b => (by rw [hj] at q; cases q; rw [hb] at b; cases b), fun rs' q _ => z _ rfl, fun q => by rw [hj] at q; cases q⟩) (fun y e => ?_) sc_law_asked.nd
      subst e
      refine .inl ⟨T.s_TooMany_QuiltError, fun a pn => ?_⟩
      refine st_set 3 (x := (⟨"TooMany"⟩ : Err)) (ev_var 5) (st_nil ?_) sc_law_asked.nd
      refine st_if (k := false) (et_cmp o_isNo (ev_var 3) ev_non) (fun h => nomatch h) (fun _ => st_nil ?_)
      refine st_setN 6 (xs := [true, false, true]) (en_lst (es_cons (ev_isiEB (α := Err) "ValueError" T.b_isinstance T.b_ValueError T.x_TooMany T.t_TooMany_ValueError (ev_var 3)) (es_cons (ev_isiE (α := Err) T.b_isinstance T.x_TooMany T.x_NoRule T.s_TooMany_NoRule (ev_var 3)) (es_cons (ev_isiE (α := Err) T.b_isinstance T.x_TooMany T.x_TooMany T.s_TooMany_TooMany (ev_var 3)) es_nil)))) (fun ad => ?_) sc_law_asked.nd
      refine st_freeze 6 frozL ?_
      exact st_retE (xs := [true, false, true] ++ [false]) (en_addL (ev_var 6) (ev_of_en (en_lst (es_cons (ev_isiE (α := Err) T.b_isinstance T.x_TooMany T.x_NoGrammar T.s_TooMany_NoGrammar (ev_var 3)) es_nil))) (sl_small (by decide))) (h2 rs hj hb)
    | false =>
      have hl : (joinSigns g.signs h.signs).length ≤ 4 := (signsOk_len (joinG_made hg hh hj hb).ok.sg).2
      refine st_set 4 (x := joinG g h rs) (ev_call (ok_joined T) (hr.mono (by decide)) (ea_cons (ev_var 0) (ea_cons (ev_var 1) (ea_cons (ev_var 2) ea_nil))) fun P R z => ⟨g, h, way, rfl, hg, hh, fun rs' q _ => by (rw [hj] at q; cases q; exact z), fun rs' q b => by (rw [hj] at q; cases q; rw [hb] at b; cases b), fun q => by rw [hj] at q; cases q⟩) (st_nil ?_) sc_law_asked.nd
      refine st_if (k := true) (et_cmp o_isU (ev_var 3) ev_non) (fun _ => ?_) (fun h => nomatch h)
      exact st_retE (xs := sizesG g h rs) (en_lst (es_cons (x := ((joinSigns g.signs h.signs).length : Int)) (ev_lenS T.b_len (x := joinSigns g.signs h.signs) (ev_fld (x := joinG g h rs) (y := joinSigns g.signs h.signs) T.o_Grammar T.a_Grammar_signs rfl rfl (ev_var 4)) (sl_small (by omega))) (es_cons (x := ((joinRules g h rs).length : Int)) (ev_meth0 (x := joinG g h rs) (y := ((joinG g h rs).rules.length : Int)) T.o_Grammar (ok_Grammar_many T) (hr.mono (by decide)) rfl (lk rfl) (ev_var 4) fun P' R' z => ⟨_, rfl, z⟩) (es_cons (x := ((joinG g h rs).names.length : Int)) (ev_len T.b_len (ev_of_en (en_meth0 (x := joinG g h rs) T.o_Grammar (ok_Grammar_names T) (hr.mono (by decide)) rfl (lk rfl) (ev_var 4) fun P' R' z => ⟨_, rfl, z⟩))) es_nil))) (hz := sl_small (Nat.le_of_ble_eq_true rfl))) (h1 rs hj hb)
theorem ok_law_one (T : Txt K mg) : Has P w K mg base 3 "_law_one" ["_law_script", "_law_begin", "_law_cells"] one45S := by
  refine Has.of T.f_law_one sc_law_one (fun A Q R ⟨s, b, cells, e, _⟩ => by rw [e]; rfl) fun f cdv A outer s0 H E hr Γ Q R ⟨s, b, cells, e, hl, hb, hcl, hq⟩ => ?_
  subst e
  generalize ec1 : mixCell s.l (b + 1) = c1
  have go : ∀ many : Nat, 1 ≤ many → many ≤ 8 → Tw.ST (cxOf (L2.CX P w) P w K mg base N_law_one "_law_one" (defScope s_law_one) f cdv A outer s0 H E).nox ((defBody s_law_one).drop 2) [vl s, vl b, vl cells, vl (many : Int), .no, .no, .no] (fin Q) := fun many hm1 hm8 => by
    refine st_set 4 (x := lawPool (mixCell s.l b) many) (ev_of_en (en_call (ok_law_pool T) (hr.mono (by decide)) (ea_cons (ev_call (ok_law_cell T) (hr.mono (by decide)) (ea_cons (ev_var 0) (ea_cons (ev_var 1) ea_nil)) fun P R h => ⟨s, b, rfl, hl, hb, h⟩) (ea_cons (ev_var 3) ea_nil)) fun P R h => ⟨_, many, rfl, by omega, h⟩)) ?_ sc_law_one.nd
    have hns : ∀ n ∈ lawPool (mixCell s.l b) many, isName n = true := fun n hn => by
      obtain ⟨z, _, rfl⟩ := List.mem_map.mp hn
      exact poolOne_name _ _
    have hnl : (lawPool (mixCell s.l b) many).length = many := by unfold lawPool; rw [List.length_map, rng_len]
    generalize lawPool (mixCell s.l b) many = names at hns hnl
    have hsg := smSigns_good (mixCell s.l (b + 2))
    have hsi := smSigns_in (c := mixCell s.l (b + 2))
    refine st_set 5 (x := smSigns (mixCell s.l (b + 2))) (ev_call (ok_law_signs T) (hr.mono (by decide)) (ea_cons (ev_call (ok_law_cell T) (hr.mono (by decide)) (ea_cons (ev_var 0) (ea_cons (ev_bin o_add (ev_var 1) ev_int) ea_nil)) fun P R h => ⟨s, b + 2, rfl, hl, by omega, h⟩) ea_nil) fun P R h => ⟨_, rfl, h⟩) ?_ sc_law_one.nd
    generalize smSigns (mixCell s.l (b + 2)) = signs at hsg hsi
    have hsl := signsOk_len hsg
    refine st_setO 6 (ex_call (ok_law_rows T) (hr.mono (by decide)) (ea_cons (ev_var 2) (ea_cons (ev_var 4) (ea_cons (ev_var 5) ea_nil))) fun P' R' h => ⟨_, names, signs, rfl, by omega, hns, by omega, by omega, hsi, by omega, by omega, h _ rfl⟩) (fun o ho => ?_) sc_law_one.nd
    obtain ⟨ad, rows, hrl, hrows, rfl⟩ := ho
    have hrr : (rowsR rows).length = rows.length := List.length_map ..
    have hrg : ∀ r ∈ rowsR rows, r.good = true := fun r h => by
      obtain ⟨q, hq', rfl⟩ := List.mem_map.mp h
      exact (hrows q hq').1
    have hrn : ∀ r ∈ rowsR rows, r.of signs ∧ ∀ n ∈ r.name :: r.parts, n ∈ names := fun r h => by
      obtain ⟨q, hq', rfl⟩ := List.mem_map.mp h
      exact (hrows q hq').2
    refine st_freeze 6 frozL ?_
    obtain ⟨st0, a0, i0⟩ := list_atI (xs := names) (n := 0) (by decide) (by omega)
    have hwhy : whyG signs st0 (rowsR rows) = none := why_drawn (names := names) hsg (hns _ i0) i0 (by omega) (by omega) hrn
    exact st_retV (ev_tupX (x := Told.mk signs st0 rows) (ea_cons (ev_var 5) (ea_cons (x := st0) (ev_ixL (xs := names) (ev_var 4) ev_int a0) (ea_cons (ev_var 6) ea_nil))))
      (hq (Told.mk signs st0 rows) (GramD.Made.mk' hrg hwhy) (by show rows.length ≤ 14; omega))
  have m1 := Int.emod_nonneg c1 (by decide : (4 : Int) ≠ 0)
  have m2 := Int.emod_lt_of_pos c1 (by decide : (0 : Int) < 4)
  have m3 := Int.emod_nonneg (c1 / 12) (by decide : (8 : Int) ≠ 0)
  have m4 := Int.emod_lt_of_pos (c1 / 12) (by decide : (0 : Int) < 8)
  refine st_set 3 (x := (((1 + c1 % 4).toNat : Nat) : Int)) (ev_eq (x := 1 + c1 % 4) (ev_bin o_add ev_int (ev_bin (o_mod (by decide)) (ev_call (ok_law_cell T) (hr.mono (by decide)) (ea_cons (ev_var 0) (ea_cons (ev_bin o_add (ev_var 1) ev_int) ea_nil)) fun P R h => ⟨s, b + 1, rfl, hl, by omega, by rw [ec1]; exact h⟩) ev_int)) (by omega)) ?_ sc_law_one.nd
  refine st_if (et_cmp o_eq (ev_bin (o_mod (by decide)) (ev_bin (o_div divK) (ev_call (x := c1) (ok_law_cell T) (hr.mono (by decide)) (ea_cons (ev_var 0) (ea_cons (ev_bin o_add (ev_var 1) ev_int) ea_nil)) fun P R h => ⟨s, b + 1, rfl, hl, by omega, by rw [ec1]; exact h⟩) ev_int) ev_int) ev_int) (fun _ => ?_) (fun _ => st_nil (go _ (by omega) (by omega)))
  exact st_set 3 (x := (((1 + c1 / 12 % 8).toNat : Nat) : Int)) (ev_eq (x := 1 + c1 / 12 % 8) (ev_bin o_add ev_int (ev_bin (o_mod (by decide)) (ev_bin (o_div divK) (ev_call (x := c1) (ok_law_cell T) (hr.mono (by decide)) (ea_cons (ev_var 0) (ea_cons (ev_bin o_add (ev_var 1) ev_int) ea_nil)) fun P R h => ⟨s, b + 1, rfl, hl, by omega, by rw [ec1]; exact h⟩) ev_int) ev_int)) (by omega)) (st_nil (go _ (by omega) (by omega))) sc_law_one.nd
theorem body_law (T : Txt K mg) : BodyOk P w K mg base 20 "law" s_law N_law ["_law_script"] lawS := by
  intro f cdv A outer s0 H E hr Γ Q R ⟨s, e, hl, hq⟩
  subst e
  refine st_setEx 1 (G := fun t : Told => t.g.Made ∧ t.rows.length ≤ 14) (ex_call (ok_law_one T) (hr.mono (by decide)) (ea_cons (ev_var 0) (ea_cons (x := (0 : Int)) ev_int (ea_cons (x := cutL s.l (some 8) (some 22)) (ev_of_en (en_sliceScr (o1 := some 8) (o2 := some 22) (ev_var 0) ev_int ev_int)) ea_nil))) fun P' R' h => ⟨s, 0, _, rfl, hl, by decide, cut_rows (xs := s.l) (a := 8) (b := 22), fun t h1 h2 => h _ ⟨t, ⟨h1, h2⟩, rfl⟩⟩) (fun a ha => ?_) sc_law.nd
  refine st_setEx 2 (G := fun t : Told => t.g.Made ∧ t.rows.length ≤ 14) (ex_call (ok_law_one T) (hr.mono (by decide)) (ea_cons (ev_var 0) (ea_cons (x := (3 : Int)) ev_int (ea_cons (x := cutL s.l (some 22) (some 36)) (ev_of_en (en_sliceScr (o1 := some 22) (o2 := some 36) (ev_var 0) ev_int ev_int)) ea_nil))) fun P' R' h => ⟨s, 3, _, rfl, hl, by decide, cut_rows (xs := s.l) (a := 22) (b := 36), fun t h1 h2 => h _ ⟨t, ⟨h1, h2⟩, rfl⟩⟩) (fun b hb => ?_) sc_law.nd
  obtain ⟨ma, ra⟩ := ha
  obtain ⟨mb, rb⟩ := hb
  refine st_setEx 3 (G := fun x : Tx => x.length ≤ 100) (ex_call (ok_law_way T) (hr.mono (by decide)) (ea_cons (ev_call (ok_law_cell T) (hr.mono (by decide)) (ea_cons (ev_var 0) (ea_cons ev_int ea_nil)) fun P R h => ⟨s, 6, rfl, hl, by decide, h⟩) ea_nil) fun P' R' h => ⟨_, rfl, fun x hx => h _ ⟨x, hx, rfl⟩⟩) (fun way hway => ?_) sc_law.nd
  have mk : ∀ {t : Told}, t.g.Made → t.s.length ≤ 4 ∧ t.st.length ≤ 4 ∧ t.rows.length ≤ 24 ∧ t.s.Nodup ∧ (metL t.st (rowsR t.rows)).length ≤ 8 ∧ ∀ q ∈ t.rows, q.r.good = true := fun {t} hm => by
    have okg := hm.ok
    have l3 : t.g.rules.length ≤ 24 := okg.many
    have l4 := Told.rl (t := t)
    exact ⟨(signsOk_len (x := t.s) okg.sg).2, isName_len (x := t.st) okg.st, by omega, signsOk_nd (x := t.s) okg.sg, okg.n8, Told.good hm⟩
  obtain ⟨a1, a2, a3, a4, a5, a6⟩ := mk ma
  obtain ⟨b1, b2, b3, b4, b5, b6⟩ := mk mb
  have la : a.g.rules.length = a.rows.length := Told.rl
  have lb : b.g.rules.length = b.rows.length := Told.rl
  refine st_set 4 (x := a.g) (ev_mkG T hr (ea_cons (x := a.s) (ev_ixX (x := a) (k := 0) (ev_var 1) ev_int rfl rfl) (ea_cons (x := a.st) (ev_ixX (x := a) (k := 1) (ev_var 1) ev_int rfl rfl) (ea_cons (x := rowsR a.rows) (ev_of_en (en_lc (α := Row) (β := RuleD) (own := [("_law_row", 10)]) (f := Row.r) (src_list (xs := a.rows) (ev_ixX (x := a) (k := 2) (ev_var 1) ev_int rfl rfl)) (tg_name 10) (fun _ _ _ _ _ => pgn 10 sc_law.nd)
      (fun q hq' _ _ _ _ _ => ev_call (x := q.r) (ok_law_rule T) (hr.mono (by decide)) (ea_cons (ev_var 10) ea_nil) fun P R h => ⟨q, rfl, a6 q hq', h⟩) sc_law.nd (ok := bk_law (by decide +kernel)) (hz := sl_small (by omega)))) ea_nil))) ma.rs ma.why (by omega) (by omega) (by show a.g.rules.length ≤ 1000; omega)) ?_ sc_law.nd
  refine st_set 5 (x := b.g) (ev_mkG T hr (ea_cons (x := b.s) (ev_ixX (x := b) (k := 0) (ev_var 2) ev_int rfl rfl) (ea_cons (x := b.st) (ev_ixX (x := b) (k := 1) (ev_var 2) ev_int rfl rfl) (ea_cons (x := rowsR b.rows) (ev_of_en (en_lc (α := Row) (β := RuleD) (own := [("_law_row", 10)]) (f := Row.r) (src_list (xs := b.rows) (ev_ixX (x := b) (k := 2) (ev_var 2) ev_int rfl rfl)) (tg_name 10) (fun _ _ _ _ _ => pgn 10 sc_law.nd)
      (fun q hq' _ _ _ _ _ => ev_call (x := q.r) (ok_law_rule T) (hr.mono (by decide)) (ea_cons (ev_var 10) ea_nil) fun P R h => ⟨q, rfl, b6 q hq', h⟩) sc_law.nd (ok := bk_law (by decide +kernel)) (hz := sl_small (by omega)))) ea_nil))) mb.rs mb.why (by omega) (by omega) (by show b.g.rules.length ≤ 1000; omega)) ?_ sc_law.nd
  refine st_set 6 (x := ((joinSigns a.s b.s).length : Int)) (ev_eq (ev_lenSet (x := a.s ++ b.s) T.b_len T.b_set (ev_bin (o_addS (sl_small (by omega))) (ev_ixX (x := a) (y := a.s) (k := 0) (ev_var 1) ev_int rfl rfl) (ev_ixX (x := b) (y := b.s) (k := 0) (ev_var 2) ev_int rfl rfl)) (by rw [List.length_append]; omega)) (by rw [unlike_app a4 b4]; rfl)) ?_ sc_law.nd
  refine st_set 7 (x := 1 + (if decide (way = tx "either") then (1 : Int) else 0) + (a.rows.length : Int) + (b.rows.length : Int)) (ev_bin o_add (ev_bin o_add (ev_bin o_add ev_int (ev_intB T.b_int (ev_cmp o_eqS (ev_var 3) (ev_str "either")))) (ev_len T.b_len (ev_ixX (x := a) (y := a.rows) (k := 2) (ev_var 1) ev_int rfl rfl))) (ev_len T.b_len (ev_ixX (x := b) (y := b.rows) (k := 2) (ev_var 2) ev_int rfl rfl))) ?_ sc_law.nd
  refine st_set 8 (x := 1 + (a.g.names.length : Int) + (b.g.names.length : Int)) (ev_bin o_add (ev_bin o_add ev_int (ev_len T.b_len (ev_of_en (en_call (xs := a.g.names) (ok_law_met T) (hr.mono (by decide)) (ea_cons (x := a.st) (ev_ixX (x := a) (k := 1) (ev_var 1) ev_int rfl rfl) (ea_cons (x := a.rows) (ev_ixX (x := a) (k := 2) (ev_var 1) ev_int rfl rfl) ea_nil)) fun P R h => ⟨a.st, a.rows, rfl, by omega, h⟩)))) (ev_len T.b_len (ev_of_en (en_call (xs := b.g.names) (ok_law_met T) (hr.mono (by decide)) (ea_cons (x := b.st) (ev_ixX (x := b) (k := 1) (ev_var 2) ev_int rfl rfl) (ea_cons (x := b.rows) (ev_ixX (x := b) (k := 2) (ev_var 2) ev_int rfl rfl) ea_nil)) fun P R h => ⟨b.st, b.rows, rfl, by omega, h⟩)))) ?_ sc_law.nd
  refine st_setN 9 (α := Int) (en_lst (es_cons (ev_var 6) (es_cons (ev_var 7) (es_cons (ev_var 8) es_nil)))) (fun ad => ?_) sc_law.nd
  refine st_freeze 9 frozL ?_
  have last : ∀ {due : List Bool}, (jointL fA sA way = none → due = [true, true, false, false]) → (∀ rs, jointL fA sA way = some rs → due = [true, false, true, false] ∧ tooBig a.g b.g rs = true) → Tw.ST (cxOf (L2.CX P w) P w K mg base N_law "law" (defScope s_law) f cdv A outer s0 H E).nox ((defBody s_law).drop 11) [vl s, vl a, vl b, vl way, vl a.g, vl b.g, vl ((joinSigns a.s b.s).length : Int), vl (1 + (if decide (way = tx "either") then (1 : Int) else 0) + (a.rows.length : Int) + (b.rows.length : Int)), vl (1 + (a.g.names.length : Int) + (b.g.names.length : Int)), vl due, .no] (fin Q) := fun {due} d1 d2 => by
    have one : ∀ {Γ : List Tw.Slot} {e1 e2 e3 : Expr}, True := trivial
    exact st_retV (ev_eq (y := true) (ev_and2 (ev_cmp (o_eqD (α := List Bool) (x := due) (y := due) hr (fun _ _ => trivial) (fun _ _ => trivial)) (ev_of_en (en_call (ok_law_asked T) (hr.mono (by decide)) (ea_cons (ev_var 4) (ea_cons (ev_var 5) (ea_cons (ev_var 3) ea_nil))) fun P R z => ⟨a.g, b.g, way, rfl, ma, mb, fun rs q t => (by rw [(d2 rs q).2] at t; cases t), fun rs q _ => (by rw [← (d2 rs q).1]; exact z), fun q => (by rw [← d1 q]; exact z)⟩)) (ev_var 9)) fun _ => ev_cmp (o_eqD (α := List Bool) (x := due) (y := due) hr (fun _ _ => trivial) (fun _ _ => trivial)) (ev_of_en (en_call (ok_law_asked T) (hr.mono (by decide)) (ea_cons (ev_var 4) (ea_cons (ev_var 5) (ea_cons (ev_var 3) ea_nil))) fun P R z => ⟨a.g, b.g, way, rfl, ma, mb, fun rs q t => (by rw [(d2 rs q).2] at t; cases t), fun rs q _ => (by rw [← (d2 rs q).1]; exact z), fun q => (by rw [← d1 q]; exact z)⟩)) (ev_var 9)) (by simp)) hq
  cases hj : jointL fA sA way with
  | none =>
    have hn := joint_none.mp hj
    have rest : ∀ o : Tw.Slot, Tw.ST (cxOf (L2.CX P w) P w K mg base N_law "law" (defScope s_law) f cdv A outer s0 H E).nox ((defBody s_law).drop 10) [vl s, vl a, vl b, vl way, vl a.g, vl b.g, vl ((joinSigns a.s b.s).length : Int), vl (1 + (if decide (way = tx "either") then (1 : Int) else 0) + (a.rows.length : Int) + (b.rows.length : Int)), vl (1 + (a.g.names.length : Int) + (b.g.names.length : Int)), o, .no] (fin Q) := fun o => by
      refine st_if (k := true) (et_eq (et_cmp (o_notInTS (x := way) (ys := Tup.mk [tx "either", tx "beside", tx "above"])) (ev_var 3) (ev_tupH (es_cons (ev_str "either") (es_cons (ev_str "beside") (es_cons (ev_str "above") es_nil))))) (by simpa using hn)) (fun _ => ?_) (fun h => nomatch h)
      refine st_setN 9 (xs := [true, true, false, false]) (en_lst (es_cons ev_bl (es_cons ev_bl (es_cons ev_bl (es_cons ev_bl es_nil))))) (fun ad => st_nil ?_) sc_law.nd
      refine st_freeze 9 frozL ?_
      exact last (fun _ => rfl) fun rs q => by rw [hj] at q; cases q
    refine st_if (et_or3 (et_cmp o_gt (ev_var 6) ev_int) (fun _ => et_cmp o_gt (ev_var 7) ev_int) (fun _ _ => et_cmp o_gt (ev_var 8) ev_int)) (fun _ => ?_) (fun _ => st_nil (rest _))
    exact st_setN 9 (xs := [true, false, true, false]) (en_lst (es_cons ev_bl (es_cons ev_bl (es_cons ev_bl (es_cons ev_bl es_nil))))) (fun ad => st_nil (rest _)) sc_law.nd
  | some rs =>
    have hin : way ∈ [tx "either", tx "beside", tx "above"] := Classical.byContradiction fun h => by rw [joint_none.mpr h] at hj; cases hj
    have hnum : 1 + (if decide (way = tx "either") then (1 : Int) else 0) + (a.rows.length : Int) + (b.rows.length : Int) = ((joinRules a.g b.g rs).length : Int) := by
      unfold joinRules
      rw [List.length_append, List.length_append, List.length_map, List.length_map, la, lb]
      rcases joint_cases hj with ⟨rfl, rfl⟩ | ⟨rfl, rfl⟩ | ⟨rfl, rfl⟩
      · rw [if_pos (decide_eq_true rfl), List.length_cons, List.length_cons, List.length_nil]; omega
      · rw [if_neg (by decide), List.length_cons, List.length_nil]; omega
      · rw [if_neg (by decide), List.length_cons, List.length_nil]; omega
    have htoo : ((decide ((4 : Int) < ((joinSigns a.s b.s).length : Int)) || decide ((24 : Int) < 1 + (if decide (way = tx "either") then (1 : Int) else 0) + (a.rows.length : Int) + (b.rows.length : Int))) || decide ((8 : Int) < 1 + (a.g.names.length : Int) + (b.g.names.length : Int))) = tooBig a.g b.g rs := by
      rw [hnum]
      unfold tooBig
      congr 1
      · congr 1
        · exact decide_eq_decide.mpr (by show _ ↔ 4 < (joinSigns a.s b.s).length; omega)
        · exact decide_eq_decide.mpr (by omega)
      · exact decide_eq_decide.mpr (by omega)
    cases hb : tooBig a.g b.g rs with
    | true =>
      refine st_if (k := true) (et_eq (et_or3 (et_cmp o_gt (ev_var 6) ev_int) (fun _ => et_cmp o_gt (ev_var 7) ev_int) (fun _ _ => et_cmp o_gt (ev_var 8) ev_int)) ((Bool.or_assoc _ _ _).symm.trans (htoo.trans hb))) (fun _ => ?_) (fun h => nomatch h)
      refine st_setN 9 (xs := [true, false, true, false]) (en_lst (es_cons ev_bl (es_cons ev_bl (es_cons ev_bl (es_cons ev_bl es_nil))))) (fun ad => st_nil ?_) sc_law.nd
      refine st_if (k := false) (et_eq (et_cmp (o_notInTS (x := way) (ys := Tup.mk [tx "either", tx "beside", tx "above"])) (ev_var 3) (ev_tupH (es_cons (ev_str "either") (es_cons (ev_str "beside") (es_cons (ev_str "above") es_nil))))) (congrArg (fun z => !z) (decide_eq_true hin))) (fun h => nomatch h) (fun _ => st_nil ?_)
      refine st_freeze 9 frozL ?_
      exact last (fun q => by rw [hj] at q; cases q) fun rs' q => by rw [hj] at q; cases q; exact ⟨rfl, hb⟩
    | false =>
      refine st_if (k := false) (et_eq (et_or3 (et_cmp o_gt (ev_var 6) ev_int) (fun _ => et_cmp o_gt (ev_var 7) ev_int) (fun _ _ => et_cmp o_gt (ev_var 8) ev_int)) ((Bool.or_assoc _ _ _).symm.trans (htoo.trans hb))) (fun h => nomatch h) (fun _ => st_nil ?_)
      refine st_if (k := false) (et_eq (et_cmp (o_notInTS (x := way) (ys := Tup.mk [tx "either", tx "beside", tx "above"])) (ev_var 3) (ev_tupH (es_cons (ev_str "either") (es_cons (ev_str "beside") (es_cons (ev_str "above") es_nil))))) (congrArg (fun z => !z) (decide_eq_true hin))) (fun h => nomatch h) (fun _ => st_nil ?_)
      have due : [((joinSigns a.s b.s).length : Int), 1 + (if decide (way = tx "either") then (1 : Int) else 0) + (a.rows.length : Int) + (b.rows.length : Int), 1 + (a.g.names.length : Int) + (b.g.names.length : Int)] = sizesG a.g b.g rs := by
        unfold sizesG
        rw [hnum, join_names ma mb hj]
        show [_, _, _] = [_, _, _]
        congr 3
      rw [due]
      exact st_retV (ev_eq (y := true) (ev_and2 (ev_cmp (o_eqD (α := List Int) (x := sizesG a.g b.g rs) (y := sizesG a.g b.g rs) hr (fun _ _ => trivial) (fun _ _ => trivial)) (ev_of_en (en_call (ok_law_asked T) (hr.mono (by decide)) (ea_cons (ev_var 4) (ea_cons (ev_var 5) (ea_cons (ev_var 3) ea_nil))) fun P R z => ⟨a.g, b.g, way, rfl, ma, mb, fun rs' q t => (by rw [hj] at q; cases q; exact z), fun rs' q t => (by rw [hj] at q; cases q; rw [hb] at t; cases t), fun q => (by rw [hj] at q; cases q)⟩)) (ev_var 9)) fun _ => ev_cmp (o_eqD (α := List Int) (x := sizesG a.g b.g rs) (y := sizesG a.g b.g rs) hr (fun _ _ => trivial) (fun _ _ => trivial)) (ev_of_en (en_call (ok_law_asked T) (hr.mono (by decide)) (ea_cons (ev_var 4) (ea_cons (ev_var 5) (ea_cons (ev_var 3) ea_nil))) fun P R z => ⟨a.g, b.g, way, rfl, ma, mb, fun rs' q t => (by rw [hj] at q; cases q; exact z), fun rs' q t => (by rw [hj] at q; cases q; rw [hb] at t; cases t), fun q => (by rw [hj] at q; cases q)⟩)) (ev_var 9)) (by simp)) hq
end

theorem df_of {K : PySem.W.Frag} {h : Heap} {mg : Str → Option Value} {n : Str} {st : Stmt} {ps : List Str} {f : Addr} {oc : Value} {od an : Option Addr} {osl : Array (Option Value)} {kV doc pm cdv ct : Value} (X : K.In h) (G : h.Ns mainGlobals mg) (a : PySem.W.nsIn K mainGlobals n = some (some (.ref f))) (l : K.lookup f = some ⟨oc, od, .func (PySem.W.fnOf n n (defArgs st) (defBody st) (defScope st) .none kV doc pm an cdv ct), osl⟩)
    (c : PySem.W.codeIn K cdv n = true) (k : PySem.W.keepIn K (.ref f) = true)
    (hb : ∀ (kV doc pm : Value) (an : Option Addr) (cdv ct : Value) (us : List Value), us.length = ps.length → bindArgs (PySem.W.fnOf n n (defArgs st) (defBody st) (defScope st) .none kV doc pm an cdv ct) ⟨us, []⟩ = pure (ps.zip us)) : Df K mg n st ps :=
  ⟨f, _, fun_mk l c k, (fun_mk (st := st) l c k).binds hb, PySem.W.mg_of X G a⟩
theorem txt_mk {K : PySem.W.Frag} {h : Heap} {mg : Str → Option Value} (X : K.In h) (G : h.Ns mainGlobals mg)
    (zb_ValueError : PySem.W.nsIn K mainGlobals "ValueError" = some none)
    (zb_all : PySem.W.nsIn K mainGlobals "all" = some none)
    (zb_enumerate : PySem.W.nsIn K mainGlobals "enumerate" = some none)
    (zb_int : PySem.W.nsIn K mainGlobals "int" = some none)
    (zb_isinstance : PySem.W.nsIn K mainGlobals "isinstance" = some none)
    (zb_len : PySem.W.nsIn K mainGlobals "len" = some none)
    (zb_list : PySem.W.nsIn K mainGlobals "list" = some none)
    (zb_range : PySem.W.nsIn K mainGlobals "range" = some none)
    (zb_reversed : PySem.W.nsIn K mainGlobals "reversed" = some none)
    (zb_set : PySem.W.nsIn K mainGlobals "set" = some none)
    (zb_str : PySem.W.nsIn K mainGlobals "str" = some none)
    (zb_zip : PySem.W.nsIn K mainGlobals "zip" = some none)
    {t_MOST : Tok} (zc_MOST : PySem.W.nsIn K mainGlobals "MOST" = some (some (.int 6 t_MOST)))
    {t_MIRROR : Tok} (zc_MIRROR : PySem.W.nsIn K mainGlobals "MIRROR" = some (some (.int 4 t_MIRROR)))
    {t_CAPITALS : Tok} (zc_CAPITALS : PySem.W.nsIn K mainGlobals "CAPITALS" = some (some (.str (Str.ofString "ABCDEFGHIJKLMNOPQRSTUVWXYZ") t_CAPITALS)))
    {t_SMALL : Tok} (zc_SMALL : PySem.W.nsIn K mainGlobals "SMALL" = some (some (.str (Str.ofString "abcdefghijklmnopqrstuvwxyz") t_SMALL)))
    {t_MOST_LETTERS : Tok} (zc_MOST_LETTERS : PySem.W.nsIn K mainGlobals "MOST_LETTERS" = some (some (.int 4 t_MOST_LETTERS)))
    {t_MOST_COST : Tok} (zc_MOST_COST : PySem.W.nsIn K mainGlobals "MOST_COST" = some (some (.int 9 t_MOST_COST)))
    {t_MOST_SIGNS : Tok} (zc_MOST_SIGNS : PySem.W.nsIn K mainGlobals "MOST_SIGNS" = some (some (.int 4 t_MOST_SIGNS)))
    {t_MOST_RULES : Tok} (zc_MOST_RULES : PySem.W.nsIn K mainGlobals "MOST_RULES" = some (some (.int 24 t_MOST_RULES)))
    {t_MOST_NAMES : Tok} (zc_MOST_NAMES : PySem.W.nsIn K mainGlobals "MOST_NAMES" = some (some (.int 8 t_MOST_NAMES)))
    {t_JOINT : Tok} (zc_JOINT : PySem.W.nsIn K mainGlobals "JOINT" = some (some (.str (Str.ofString "J") t_JOINT)))
    {t_FIRST : Tok} (zc_FIRST : PySem.W.nsIn K mainGlobals "FIRST" = some (some (.str (Str.ofString "F") t_FIRST)))
    {t_SECOND : Tok} (zc_SECOND : PySem.W.nsIn K mainGlobals "SECOND" = some (some (.str (Str.ofString "S") t_SECOND)))
    (xn : PySem.W.specialIn K (.builtin "object.__class__") "__get__" = some (some (.builtin "getset_descriptor.__get__")))
    (xq : PySem.W.takesIn K (.builtin "object.__class__") = some true)
    {C_QuiltError : Addr}
    (xa_QuiltError : PySem.W.nsIn K mainGlobals "QuiltError" = some (some (.ref C_QuiltError)))
    (xk_QuiltError : PySem.W.keepIn K (.ref C_QuiltError) = true)
    (xt_QuiltError : PySem.W.typeIn K (.ref C_QuiltError) = some (.type "type"))
    (xg_QuiltError : PySem.W.findIn K (.ref C_QuiltError) "__getattribute__" = some (some (.builtin "BaseException.__getattribute__")))
    (xh_QuiltError : PySem.W.findIn K (.ref C_QuiltError) "__getattr__" = some none)
    (xs_QuiltError : PySem.W.subIn K (.ref C_QuiltError) (.type "BaseException") = some true)
    (xd_QuiltError : PySem.W.hasDictIn K C_QuiltError = true)
    (xc_QuiltError : PySem.W.findIn K (.ref C_QuiltError) "__class__" = some (some (.builtin "object.__class__")))
    (xm_QuiltError : PySem.W.mroIn K C_QuiltError (.type "object") = some true)
    {C_NoFit : Addr}
    (xa_NoFit : PySem.W.nsIn K mainGlobals "NoFit" = some (some (.ref C_NoFit)))
    (xk_NoFit : PySem.W.keepIn K (.ref C_NoFit) = true)
    (xt_NoFit : PySem.W.typeIn K (.ref C_NoFit) = some (.type "type"))
    (xg_NoFit : PySem.W.findIn K (.ref C_NoFit) "__getattribute__" = some (some (.builtin "BaseException.__getattribute__")))
    (xh_NoFit : PySem.W.findIn K (.ref C_NoFit) "__getattr__" = some none)
    (xs_NoFit : PySem.W.subIn K (.ref C_NoFit) (.type "BaseException") = some true)
    (xd_NoFit : PySem.W.hasDictIn K C_NoFit = true)
    (xc_NoFit : PySem.W.findIn K (.ref C_NoFit) "__class__" = some (some (.builtin "object.__class__")))
    (xm_NoFit : PySem.W.mroIn K C_NoFit (.type "object") = some true)
    {C_NoRule : Addr}
    (xa_NoRule : PySem.W.nsIn K mainGlobals "NoRule" = some (some (.ref C_NoRule)))
    (xk_NoRule : PySem.W.keepIn K (.ref C_NoRule) = true)
    (xt_NoRule : PySem.W.typeIn K (.ref C_NoRule) = some (.type "type"))
    (xg_NoRule : PySem.W.findIn K (.ref C_NoRule) "__getattribute__" = some (some (.builtin "BaseException.__getattribute__")))
    (xh_NoRule : PySem.W.findIn K (.ref C_NoRule) "__getattr__" = some none)
    (xs_NoRule : PySem.W.subIn K (.ref C_NoRule) (.type "BaseException") = some true)
    (xd_NoRule : PySem.W.hasDictIn K C_NoRule = true)
    (xc_NoRule : PySem.W.findIn K (.ref C_NoRule) "__class__" = some (some (.builtin "object.__class__")))
    (xm_NoRule : PySem.W.mroIn K C_NoRule (.type "object") = some true)
    {C_NoGrammar : Addr}
    (xa_NoGrammar : PySem.W.nsIn K mainGlobals "NoGrammar" = some (some (.ref C_NoGrammar)))
    (xk_NoGrammar : PySem.W.keepIn K (.ref C_NoGrammar) = true)
    (xt_NoGrammar : PySem.W.typeIn K (.ref C_NoGrammar) = some (.type "type"))
    (xg_NoGrammar : PySem.W.findIn K (.ref C_NoGrammar) "__getattribute__" = some (some (.builtin "BaseException.__getattribute__")))
    (xh_NoGrammar : PySem.W.findIn K (.ref C_NoGrammar) "__getattr__" = some none)
    (xs_NoGrammar : PySem.W.subIn K (.ref C_NoGrammar) (.type "BaseException") = some true)
    (xd_NoGrammar : PySem.W.hasDictIn K C_NoGrammar = true)
    (xc_NoGrammar : PySem.W.findIn K (.ref C_NoGrammar) "__class__" = some (some (.builtin "object.__class__")))
    (xm_NoGrammar : PySem.W.mroIn K C_NoGrammar (.type "object") = some true)
    {C_TooMany : Addr}
    (xa_TooMany : PySem.W.nsIn K mainGlobals "TooMany" = some (some (.ref C_TooMany)))
    (xk_TooMany : PySem.W.keepIn K (.ref C_TooMany) = true)
    (xt_TooMany : PySem.W.typeIn K (.ref C_TooMany) = some (.type "type"))
    (xg_TooMany : PySem.W.findIn K (.ref C_TooMany) "__getattribute__" = some (some (.builtin "BaseException.__getattribute__")))
    (xh_TooMany : PySem.W.findIn K (.ref C_TooMany) "__getattr__" = some none)
    (xs_TooMany : PySem.W.subIn K (.ref C_TooMany) (.type "BaseException") = some true)
    (xd_TooMany : PySem.W.hasDictIn K C_TooMany = true)
    (xc_TooMany : PySem.W.findIn K (.ref C_TooMany) "__class__" = some (some (.builtin "object.__class__")))
    (xm_TooMany : PySem.W.mroIn K C_TooMany (.type "object") = some true)
    (xp_NoRule : PySem.W.excIn K C_NoRule [.type "ValueError", .type "Exception", .type "BaseException", .type "object"] "ValueError.__new__" = true)
    (xp_NoFit : PySem.W.excIn K C_NoFit [.type "ValueError", .type "Exception", .type "BaseException", .type "object"] "ValueError.__new__" = true)
    {nm_NoGrammar qn_NoGrammar : Str} {NN_NoGrammar fI_NoGrammar : Addr} {bs_NoGrammar bm_NoGrammar : List Value} {sn_NoGrammar : List Str} {su_NoGrammar : List Value} {ab_NoGrammar : Bool} {col_NoGrammar : _} {dd_NoGrammar : Option Addr} {k0_NoGrammar k1_NoGrammar k2_NoGrammar k3_NoGrammar k5_NoGrammar : Option Value}
    (xl_NoGrammar : K.lookup C_NoGrammar = some (excClassObj nm_NoGrammar qn_NoGrammar C_NoGrammar NN_NoGrammar bs_NoGrammar bm_NoGrammar true sn_NoGrammar su_NoGrammar ab_NoGrammar col_NoGrammar dd_NoGrammar k0_NoGrammar k1_NoGrammar k2_NoGrammar k3_NoGrammar k5_NoGrammar "ValueError.__new__"))
    (xv_NoGrammar : PySem.HandSPX.refsVE bm_NoGrammar = true)
    (xw_NoGrammar : PySem.W.findIn K (.ref C_NoGrammar) "__setattr__" = some (some (.builtin "object.__setattr__")))
    (xf_NoGrammar : PySem.W.findIn K (.ref C_NoGrammar) "why" = some none)
    (xi_NoGrammar : PySem.W.findIn K (.ref C_NoGrammar) "__init__" = some (some (.ref fI_NoGrammar)))
    (xj_NoGrammar : PySem.W.typeIn K (.ref fI_NoGrammar) = some (.type "function"))
    {od_iNoGrammar an_iNoGrammar : Option Addr} {sl_iNoGrammar : Array (Option Value)} {oc_iNoGrammar kV_iNoGrammar dc_iNoGrammar pm_iNoGrammar cd_iNoGrammar ct_iNoGrammar : Value}
    (xo_NoGrammar : K.lookup fI_NoGrammar = some ⟨oc_iNoGrammar, od_iNoGrammar, .func (PySem.W.fnOf "__init__" "NoGrammar.__init__" (defArgs s_NoGrammar_init) (defBody s_NoGrammar_init) (defScope s_NoGrammar_init) .none kV_iNoGrammar dc_iNoGrammar pm_iNoGrammar an_iNoGrammar cd_iNoGrammar ct_iNoGrammar), sl_iNoGrammar⟩)
    (xu_NoGrammar : PySem.W.codeIn K cd_iNoGrammar "NoGrammar.__init__" = true)
    (xz_NoGrammar : PySem.W.keepIn K (.ref fI_NoGrammar) = true)
    (xp_TooMany : PySem.W.excIn K C_TooMany [.type "ValueError", .type "Exception", .type "BaseException", .type "object"] "ValueError.__new__" = true)
    (qs_QuiltError : PySem.W.specialIn K (.ref C_QuiltError) "__getattribute__" = some (some (.builtin "type.__getattribute__")))
    (qr_QuiltError : PySem.W.readsIn K C_QuiltError (.type "type") = true)
    (qf_QuiltError : PySem.W.findCls K (.ref C_QuiltError) (.type "type") "__init__" = some (.val (.builtin "ValueError.__init__")))
    (y_NoRule_QuiltError : PySem.W.subIn K (.ref C_NoRule) (.ref C_QuiltError) = some true)
    (y_NoRule_NoRule : PySem.W.subIn K (.ref C_NoRule) (.ref C_NoRule) = some true)
    (y_NoRule_TooMany : PySem.W.subIn K (.ref C_NoRule) (.ref C_TooMany) = some false)
    (d_NoRule_TooMany : ¬ C_NoRule = C_TooMany)
    (y_NoRule_NoGrammar : PySem.W.subIn K (.ref C_NoRule) (.ref C_NoGrammar) = some false)
    (d_NoRule_NoGrammar : ¬ C_NoRule = C_NoGrammar)
    (y_NoRule_ValueError : PySem.W.subIn K (.ref C_NoRule) (.type "ValueError") = some true)
    (y_NoFit_QuiltError : PySem.W.subIn K (.ref C_NoFit) (.ref C_QuiltError) = some true)
    (y_NoFit_NoRule : PySem.W.subIn K (.ref C_NoFit) (.ref C_NoRule) = some false)
    (d_NoFit_NoRule : ¬ C_NoFit = C_NoRule)
    (y_NoFit_TooMany : PySem.W.subIn K (.ref C_NoFit) (.ref C_TooMany) = some false)
    (d_NoFit_TooMany : ¬ C_NoFit = C_TooMany)
    (y_NoFit_NoGrammar : PySem.W.subIn K (.ref C_NoFit) (.ref C_NoGrammar) = some false)
    (d_NoFit_NoGrammar : ¬ C_NoFit = C_NoGrammar)
    (y_NoFit_ValueError : PySem.W.subIn K (.ref C_NoFit) (.type "ValueError") = some true)
    (y_NoGrammar_QuiltError : PySem.W.subIn K (.ref C_NoGrammar) (.ref C_QuiltError) = some true)
    (y_NoGrammar_NoRule : PySem.W.subIn K (.ref C_NoGrammar) (.ref C_NoRule) = some false)
    (d_NoGrammar_NoRule : ¬ C_NoGrammar = C_NoRule)
    (y_NoGrammar_TooMany : PySem.W.subIn K (.ref C_NoGrammar) (.ref C_TooMany) = some false)
    (d_NoGrammar_TooMany : ¬ C_NoGrammar = C_TooMany)
    (y_NoGrammar_NoGrammar : PySem.W.subIn K (.ref C_NoGrammar) (.ref C_NoGrammar) = some true)
    (y_NoGrammar_ValueError : PySem.W.subIn K (.ref C_NoGrammar) (.type "ValueError") = some true)
    (y_TooMany_QuiltError : PySem.W.subIn K (.ref C_TooMany) (.ref C_QuiltError) = some true)
    (y_TooMany_NoRule : PySem.W.subIn K (.ref C_TooMany) (.ref C_NoRule) = some false)
    (d_TooMany_NoRule : ¬ C_TooMany = C_NoRule)
    (y_TooMany_TooMany : PySem.W.subIn K (.ref C_TooMany) (.ref C_TooMany) = some true)
    (y_TooMany_NoGrammar : PySem.W.subIn K (.ref C_TooMany) (.ref C_NoGrammar) = some false)
    (d_TooMany_NoGrammar : ¬ C_TooMany = C_NoGrammar)
    (y_TooMany_ValueError : PySem.W.subIn K (.ref C_TooMany) (.type "ValueError") = some true)
    {O_Rule : Addr}
    (oa_Rule : PySem.W.nsIn K mainGlobals "Rule" = some (some (.ref O_Rule)))
    (ob_Rule : PySem.W.plainGet K O_Rule Str.empty = true)
    (oc_Rule : PySem.W.hasDictIn K O_Rule = true)
    (od_Rule : PySem.W.plainOver K O_Rule = true)
    (oe_Rule : PySem.W.findIn K (.ref O_Rule) "__setattr__" = some (some (.builtin "object.__setattr__")))
    (of_Rule : PySem.W.makesIn K O_Rule = true)
    (og_Rule : PySem.W.keepIn K (.ref O_Rule) = true)
    (oh_Rule : PySem.W.typeIn K (.ref O_Rule) = some (.type "type"))
    (oi_Rule : PySem.W.findIn K (.ref O_Rule) "__class__" = some (some (.builtin "object.__class__")))
    (oj_Rule : PySem.W.mroIn K O_Rule (.type "object") = some true)
    {O_CellRule : Addr}
    (oa_CellRule : PySem.W.nsIn K mainGlobals "CellRule" = some (some (.ref O_CellRule)))
    (ob_CellRule : PySem.W.plainGet K O_CellRule Str.empty = true)
    (oc_CellRule : PySem.W.hasDictIn K O_CellRule = true)
    (od_CellRule : PySem.W.plainOver K O_CellRule = true)
    (oe_CellRule : PySem.W.findIn K (.ref O_CellRule) "__setattr__" = some (some (.builtin "object.__setattr__")))
    (of_CellRule : PySem.W.makesIn K O_CellRule = true)
    (og_CellRule : PySem.W.keepIn K (.ref O_CellRule) = true)
    (oh_CellRule : PySem.W.typeIn K (.ref O_CellRule) = some (.type "type"))
    (oi_CellRule : PySem.W.findIn K (.ref O_CellRule) "__class__" = some (some (.builtin "object.__class__")))
    (oj_CellRule : PySem.W.mroIn K O_CellRule (.type "object") = some true)
    {O_BesideRule : Addr}
    (oa_BesideRule : PySem.W.nsIn K mainGlobals "BesideRule" = some (some (.ref O_BesideRule)))
    (ob_BesideRule : PySem.W.plainGet K O_BesideRule Str.empty = true)
    (oc_BesideRule : PySem.W.hasDictIn K O_BesideRule = true)
    (od_BesideRule : PySem.W.plainOver K O_BesideRule = true)
    (oe_BesideRule : PySem.W.findIn K (.ref O_BesideRule) "__setattr__" = some (some (.builtin "object.__setattr__")))
    (of_BesideRule : PySem.W.makesIn K O_BesideRule = true)
    (og_BesideRule : PySem.W.keepIn K (.ref O_BesideRule) = true)
    (oh_BesideRule : PySem.W.typeIn K (.ref O_BesideRule) = some (.type "type"))
    (oi_BesideRule : PySem.W.findIn K (.ref O_BesideRule) "__class__" = some (some (.builtin "object.__class__")))
    (oj_BesideRule : PySem.W.mroIn K O_BesideRule (.type "object") = some true)
    {O_AboveRule : Addr}
    (oa_AboveRule : PySem.W.nsIn K mainGlobals "AboveRule" = some (some (.ref O_AboveRule)))
    (ob_AboveRule : PySem.W.plainGet K O_AboveRule Str.empty = true)
    (oc_AboveRule : PySem.W.hasDictIn K O_AboveRule = true)
    (od_AboveRule : PySem.W.plainOver K O_AboveRule = true)
    (oe_AboveRule : PySem.W.findIn K (.ref O_AboveRule) "__setattr__" = some (some (.builtin "object.__setattr__")))
    (of_AboveRule : PySem.W.makesIn K O_AboveRule = true)
    (og_AboveRule : PySem.W.keepIn K (.ref O_AboveRule) = true)
    (oh_AboveRule : PySem.W.typeIn K (.ref O_AboveRule) = some (.type "type"))
    (oi_AboveRule : PySem.W.findIn K (.ref O_AboveRule) "__class__" = some (some (.builtin "object.__class__")))
    (oj_AboveRule : PySem.W.mroIn K O_AboveRule (.type "object") = some true)
    {O_TurnRule : Addr}
    (oa_TurnRule : PySem.W.nsIn K mainGlobals "TurnRule" = some (some (.ref O_TurnRule)))
    (ob_TurnRule : PySem.W.plainGet K O_TurnRule Str.empty = true)
    (oc_TurnRule : PySem.W.hasDictIn K O_TurnRule = true)
    (od_TurnRule : PySem.W.plainOver K O_TurnRule = true)
    (oe_TurnRule : PySem.W.findIn K (.ref O_TurnRule) "__setattr__" = some (some (.builtin "object.__setattr__")))
    (of_TurnRule : PySem.W.makesIn K O_TurnRule = true)
    (og_TurnRule : PySem.W.keepIn K (.ref O_TurnRule) = true)
    (oh_TurnRule : PySem.W.typeIn K (.ref O_TurnRule) = some (.type "type"))
    (oi_TurnRule : PySem.W.findIn K (.ref O_TurnRule) "__class__" = some (some (.builtin "object.__class__")))
    (oj_TurnRule : PySem.W.mroIn K O_TurnRule (.type "object") = some true)
    {O_Grammar : Addr}
    (oa_Grammar : PySem.W.nsIn K mainGlobals "Grammar" = some (some (.ref O_Grammar)))
    (ob_Grammar : PySem.W.plainGet K O_Grammar Str.empty = true)
    (oc_Grammar : PySem.W.hasDictIn K O_Grammar = true)
    (od_Grammar : PySem.W.plainOver K O_Grammar = true)
    (oe_Grammar : PySem.W.findIn K (.ref O_Grammar) "__setattr__" = some (some (.builtin "object.__setattr__")))
    (of_Grammar : PySem.W.makesIn K O_Grammar = true)
    (og_Grammar : PySem.W.keepIn K (.ref O_Grammar) = true)
    (oh_Grammar : PySem.W.typeIn K (.ref O_Grammar) = some (.type "type"))
    (oi_Grammar : PySem.W.findIn K (.ref O_Grammar) "__class__" = some (some (.builtin "object.__class__")))
    (oj_Grammar : PySem.W.mroIn K O_Grammar (.type "object") = some true)
    (na_Rule_name : PySem.W.findIn K (.ref O_Rule) "name" = some none)
    (na_Rule_cost : PySem.W.findIn K (.ref O_Rule) "cost" = some none)
    {g_Rule_init : Addr} {god_Rule_init gan_Rule_init : Option Addr} {gsl_Rule_init : Array (Option Value)} {goc_Rule_init gkV_Rule_init gdc_Rule_init gpm_Rule_init gcd_Rule_init gct_Rule_init : Value}
    (ma_Rule_init : PySem.W.findIn K (.ref O_Rule) "__init__" = some (some (.ref g_Rule_init)))
    (ml_Rule_init : K.lookup g_Rule_init = some ⟨goc_Rule_init, god_Rule_init, .func (PySem.W.fnOf "__init__" "Rule.__init__" (defArgs s_Rule_init) (defBody s_Rule_init) (defScope s_Rule_init) .none gkV_Rule_init gdc_Rule_init gpm_Rule_init gan_Rule_init gcd_Rule_init gct_Rule_init), gsl_Rule_init⟩)
    (mc_Rule_init : PySem.W.codeIn K gcd_Rule_init "Rule.__init__" = true)
    (mk_Rule_init : PySem.W.keepIn K (.ref g_Rule_init) = true)
    (mf_Rule_init : PySem.W.isFn K (.ref g_Rule_init) = true)
    (na_CellRule_sign : PySem.W.findIn K (.ref O_CellRule) "sign" = some none)
    (na_CellRule_name : PySem.W.findIn K (.ref O_CellRule) "name" = some none)
    (na_CellRule_cost : PySem.W.findIn K (.ref O_CellRule) "cost" = some none)
    {g_CellRule_init : Addr} {god_CellRule_init gan_CellRule_init : Option Addr} {gsl_CellRule_init : Array (Option Value)} {goc_CellRule_init gkV_CellRule_init gdc_CellRule_init gpm_CellRule_init gcd_CellRule_init gct_CellRule_init : Value}
    (ma_CellRule_init : PySem.W.findIn K (.ref O_CellRule) "__init__" = some (some (.ref g_CellRule_init)))
    (ml_CellRule_init : K.lookup g_CellRule_init = some ⟨goc_CellRule_init, god_CellRule_init, .func (PySem.W.fnOf "__init__" "CellRule.__init__" (defArgs s_CellRule_init) (defBody s_CellRule_init) (defScope s_CellRule_init) .none gkV_CellRule_init gdc_CellRule_init gpm_CellRule_init gan_CellRule_init gcd_CellRule_init gct_CellRule_init), gsl_CellRule_init⟩)
    (mc_CellRule_init : PySem.W.codeIn K gcd_CellRule_init "CellRule.__init__" = true)
    (mk_CellRule_init : PySem.W.keepIn K (.ref g_CellRule_init) = true)
    (mf_CellRule_init : PySem.W.isFn K (.ref g_CellRule_init) = true)
    {g_CellRule_renamed : Addr} {god_CellRule_renamed gan_CellRule_renamed : Option Addr} {gsl_CellRule_renamed : Array (Option Value)} {goc_CellRule_renamed gkV_CellRule_renamed gdc_CellRule_renamed gpm_CellRule_renamed gcd_CellRule_renamed gct_CellRule_renamed : Value}
    (ma_CellRule_renamed : PySem.W.findIn K (.ref O_CellRule) "renamed" = some (some (.ref g_CellRule_renamed)))
    (ml_CellRule_renamed : K.lookup g_CellRule_renamed = some ⟨goc_CellRule_renamed, god_CellRule_renamed, .func (PySem.W.fnOf "renamed" "CellRule.renamed" (defArgs s_CellRule_renamed) (defBody s_CellRule_renamed) (defScope s_CellRule_renamed) .none gkV_CellRule_renamed gdc_CellRule_renamed gpm_CellRule_renamed gan_CellRule_renamed gcd_CellRule_renamed gct_CellRule_renamed), gsl_CellRule_renamed⟩)
    (mc_CellRule_renamed : PySem.W.codeIn K gcd_CellRule_renamed "CellRule.renamed" = true)
    (mk_CellRule_renamed : PySem.W.keepIn K (.ref g_CellRule_renamed) = true)
    (mf_CellRule_renamed : PySem.W.isFn K (.ref g_CellRule_renamed) = true)
    {g_CellRule_told : Addr} {god_CellRule_told gan_CellRule_told : Option Addr} {gsl_CellRule_told : Array (Option Value)} {goc_CellRule_told gkV_CellRule_told gdc_CellRule_told gpm_CellRule_told gcd_CellRule_told gct_CellRule_told : Value}
    (ma_CellRule_told : PySem.W.findIn K (.ref O_CellRule) "told" = some (some (.ref g_CellRule_told)))
    (ml_CellRule_told : K.lookup g_CellRule_told = some ⟨goc_CellRule_told, god_CellRule_told, .func (PySem.W.fnOf "told" "CellRule.told" (defArgs s_CellRule_told) (defBody s_CellRule_told) (defScope s_CellRule_told) .none gkV_CellRule_told gdc_CellRule_told gpm_CellRule_told gan_CellRule_told gcd_CellRule_told gct_CellRule_told), gsl_CellRule_told⟩)
    (mc_CellRule_told : PySem.W.codeIn K gcd_CellRule_told "CellRule.told" = true)
    (mk_CellRule_told : PySem.W.keepIn K (.ref g_CellRule_told) = true)
    (mf_CellRule_told : PySem.W.isFn K (.ref g_CellRule_told) = true)
    {g_Rule_parts : Addr} {god_Rule_parts gan_Rule_parts : Option Addr} {gsl_Rule_parts : Array (Option Value)} {goc_Rule_parts gkV_Rule_parts gdc_Rule_parts gpm_Rule_parts gcd_Rule_parts gct_Rule_parts : Value}
    (ma_CellRule_parts : PySem.W.findIn K (.ref O_CellRule) "parts" = some (some (.ref g_Rule_parts)))
    (ml_Rule_parts : K.lookup g_Rule_parts = some ⟨goc_Rule_parts, god_Rule_parts, .func (PySem.W.fnOf "parts" "Rule.parts" (defArgs s_Rule_parts) (defBody s_Rule_parts) (defScope s_Rule_parts) .none gkV_Rule_parts gdc_Rule_parts gpm_Rule_parts gan_Rule_parts gcd_Rule_parts gct_Rule_parts), gsl_Rule_parts⟩)
    (mc_Rule_parts : PySem.W.codeIn K gcd_Rule_parts "Rule.parts" = true)
    (mk_Rule_parts : PySem.W.keepIn K (.ref g_Rule_parts) = true)
    (mf_Rule_parts : PySem.W.isFn K (.ref g_Rule_parts) = true)
    {g_Rule_begun : Addr} {god_Rule_begun gan_Rule_begun : Option Addr} {gsl_Rule_begun : Array (Option Value)} {goc_Rule_begun gkV_Rule_begun gdc_Rule_begun gpm_Rule_begun gcd_Rule_begun gct_Rule_begun : Value}
    (ma_CellRule_begun : PySem.W.findIn K (.ref O_CellRule) "begun" = some (some (.ref g_Rule_begun)))
    (ml_Rule_begun : K.lookup g_Rule_begun = some ⟨goc_Rule_begun, god_Rule_begun, .func (PySem.W.fnOf "begun" "Rule.begun" (defArgs s_Rule_begun) (defBody s_Rule_begun) (defScope s_Rule_begun) .none gkV_Rule_begun gdc_Rule_begun gpm_Rule_begun gan_Rule_begun gcd_Rule_begun gct_Rule_begun), gsl_Rule_begun⟩)
    (mc_Rule_begun : PySem.W.codeIn K gcd_Rule_begun "Rule.begun" = true)
    (mk_Rule_begun : PySem.W.keepIn K (.ref g_Rule_begun) = true)
    (mf_Rule_begun : PySem.W.isFn K (.ref g_Rule_begun) = true)
    (na_BesideRule_one : PySem.W.findIn K (.ref O_BesideRule) "one" = some none)
    (na_BesideRule_other : PySem.W.findIn K (.ref O_BesideRule) "other" = some none)
    (na_BesideRule_name : PySem.W.findIn K (.ref O_BesideRule) "name" = some none)
    (na_BesideRule_cost : PySem.W.findIn K (.ref O_BesideRule) "cost" = some none)
    {g_BesideRule_init : Addr} {god_BesideRule_init gan_BesideRule_init : Option Addr} {gsl_BesideRule_init : Array (Option Value)} {goc_BesideRule_init gkV_BesideRule_init gdc_BesideRule_init gpm_BesideRule_init gcd_BesideRule_init gct_BesideRule_init : Value}
    (ma_BesideRule_init : PySem.W.findIn K (.ref O_BesideRule) "__init__" = some (some (.ref g_BesideRule_init)))
    (ml_BesideRule_init : K.lookup g_BesideRule_init = some ⟨goc_BesideRule_init, god_BesideRule_init, .func (PySem.W.fnOf "__init__" "BesideRule.__init__" (defArgs s_BesideRule_init) (defBody s_BesideRule_init) (defScope s_BesideRule_init) .none gkV_BesideRule_init gdc_BesideRule_init gpm_BesideRule_init gan_BesideRule_init gcd_BesideRule_init gct_BesideRule_init), gsl_BesideRule_init⟩)
    (mc_BesideRule_init : PySem.W.codeIn K gcd_BesideRule_init "BesideRule.__init__" = true)
    (mk_BesideRule_init : PySem.W.keepIn K (.ref g_BesideRule_init) = true)
    (mf_BesideRule_init : PySem.W.isFn K (.ref g_BesideRule_init) = true)
    {g_BesideRule_parts : Addr} {god_BesideRule_parts gan_BesideRule_parts : Option Addr} {gsl_BesideRule_parts : Array (Option Value)} {goc_BesideRule_parts gkV_BesideRule_parts gdc_BesideRule_parts gpm_BesideRule_parts gcd_BesideRule_parts gct_BesideRule_parts : Value}
    (ma_BesideRule_parts : PySem.W.findIn K (.ref O_BesideRule) "parts" = some (some (.ref g_BesideRule_parts)))
    (ml_BesideRule_parts : K.lookup g_BesideRule_parts = some ⟨goc_BesideRule_parts, god_BesideRule_parts, .func (PySem.W.fnOf "parts" "BesideRule.parts" (defArgs s_BesideRule_parts) (defBody s_BesideRule_parts) (defScope s_BesideRule_parts) .none gkV_BesideRule_parts gdc_BesideRule_parts gpm_BesideRule_parts gan_BesideRule_parts gcd_BesideRule_parts gct_BesideRule_parts), gsl_BesideRule_parts⟩)
    (mc_BesideRule_parts : PySem.W.codeIn K gcd_BesideRule_parts "BesideRule.parts" = true)
    (mk_BesideRule_parts : PySem.W.keepIn K (.ref g_BesideRule_parts) = true)
    (mf_BesideRule_parts : PySem.W.isFn K (.ref g_BesideRule_parts) = true)
    {g_BesideRule_renamed : Addr} {god_BesideRule_renamed gan_BesideRule_renamed : Option Addr} {gsl_BesideRule_renamed : Array (Option Value)} {goc_BesideRule_renamed gkV_BesideRule_renamed gdc_BesideRule_renamed gpm_BesideRule_renamed gcd_BesideRule_renamed gct_BesideRule_renamed : Value}
    (ma_BesideRule_renamed : PySem.W.findIn K (.ref O_BesideRule) "renamed" = some (some (.ref g_BesideRule_renamed)))
    (ml_BesideRule_renamed : K.lookup g_BesideRule_renamed = some ⟨goc_BesideRule_renamed, god_BesideRule_renamed, .func (PySem.W.fnOf "renamed" "BesideRule.renamed" (defArgs s_BesideRule_renamed) (defBody s_BesideRule_renamed) (defScope s_BesideRule_renamed) .none gkV_BesideRule_renamed gdc_BesideRule_renamed gpm_BesideRule_renamed gan_BesideRule_renamed gcd_BesideRule_renamed gct_BesideRule_renamed), gsl_BesideRule_renamed⟩)
    (mc_BesideRule_renamed : PySem.W.codeIn K gcd_BesideRule_renamed "BesideRule.renamed" = true)
    (mk_BesideRule_renamed : PySem.W.keepIn K (.ref g_BesideRule_renamed) = true)
    (mf_BesideRule_renamed : PySem.W.isFn K (.ref g_BesideRule_renamed) = true)
    {g_BesideRule_told : Addr} {god_BesideRule_told gan_BesideRule_told : Option Addr} {gsl_BesideRule_told : Array (Option Value)} {goc_BesideRule_told gkV_BesideRule_told gdc_BesideRule_told gpm_BesideRule_told gcd_BesideRule_told gct_BesideRule_told : Value}
    (ma_BesideRule_told : PySem.W.findIn K (.ref O_BesideRule) "told" = some (some (.ref g_BesideRule_told)))
    (ml_BesideRule_told : K.lookup g_BesideRule_told = some ⟨goc_BesideRule_told, god_BesideRule_told, .func (PySem.W.fnOf "told" "BesideRule.told" (defArgs s_BesideRule_told) (defBody s_BesideRule_told) (defScope s_BesideRule_told) .none gkV_BesideRule_told gdc_BesideRule_told gpm_BesideRule_told gan_BesideRule_told gcd_BesideRule_told gct_BesideRule_told), gsl_BesideRule_told⟩)
    (mc_BesideRule_told : PySem.W.codeIn K gcd_BesideRule_told "BesideRule.told" = true)
    (mk_BesideRule_told : PySem.W.keepIn K (.ref g_BesideRule_told) = true)
    (mf_BesideRule_told : PySem.W.isFn K (.ref g_BesideRule_told) = true)
    (ma_BesideRule_begun : PySem.W.findIn K (.ref O_BesideRule) "begun" = some (some (.ref g_Rule_begun)))
    (na_AboveRule_one : PySem.W.findIn K (.ref O_AboveRule) "one" = some none)
    (na_AboveRule_other : PySem.W.findIn K (.ref O_AboveRule) "other" = some none)
    (na_AboveRule_name : PySem.W.findIn K (.ref O_AboveRule) "name" = some none)
    (na_AboveRule_cost : PySem.W.findIn K (.ref O_AboveRule) "cost" = some none)
    {g_AboveRule_init : Addr} {god_AboveRule_init gan_AboveRule_init : Option Addr} {gsl_AboveRule_init : Array (Option Value)} {goc_AboveRule_init gkV_AboveRule_init gdc_AboveRule_init gpm_AboveRule_init gcd_AboveRule_init gct_AboveRule_init : Value}
    (ma_AboveRule_init : PySem.W.findIn K (.ref O_AboveRule) "__init__" = some (some (.ref g_AboveRule_init)))
    (ml_AboveRule_init : K.lookup g_AboveRule_init = some ⟨goc_AboveRule_init, god_AboveRule_init, .func (PySem.W.fnOf "__init__" "AboveRule.__init__" (defArgs s_AboveRule_init) (defBody s_AboveRule_init) (defScope s_AboveRule_init) .none gkV_AboveRule_init gdc_AboveRule_init gpm_AboveRule_init gan_AboveRule_init gcd_AboveRule_init gct_AboveRule_init), gsl_AboveRule_init⟩)
    (mc_AboveRule_init : PySem.W.codeIn K gcd_AboveRule_init "AboveRule.__init__" = true)
    (mk_AboveRule_init : PySem.W.keepIn K (.ref g_AboveRule_init) = true)
    (mf_AboveRule_init : PySem.W.isFn K (.ref g_AboveRule_init) = true)
    {g_AboveRule_parts : Addr} {god_AboveRule_parts gan_AboveRule_parts : Option Addr} {gsl_AboveRule_parts : Array (Option Value)} {goc_AboveRule_parts gkV_AboveRule_parts gdc_AboveRule_parts gpm_AboveRule_parts gcd_AboveRule_parts gct_AboveRule_parts : Value}
    (ma_AboveRule_parts : PySem.W.findIn K (.ref O_AboveRule) "parts" = some (some (.ref g_AboveRule_parts)))
    (ml_AboveRule_parts : K.lookup g_AboveRule_parts = some ⟨goc_AboveRule_parts, god_AboveRule_parts, .func (PySem.W.fnOf "parts" "AboveRule.parts" (defArgs s_AboveRule_parts) (defBody s_AboveRule_parts) (defScope s_AboveRule_parts) .none gkV_AboveRule_parts gdc_AboveRule_parts gpm_AboveRule_parts gan_AboveRule_parts gcd_AboveRule_parts gct_AboveRule_parts), gsl_AboveRule_parts⟩)
    (mc_AboveRule_parts : PySem.W.codeIn K gcd_AboveRule_parts "AboveRule.parts" = true)
    (mk_AboveRule_parts : PySem.W.keepIn K (.ref g_AboveRule_parts) = true)
    (mf_AboveRule_parts : PySem.W.isFn K (.ref g_AboveRule_parts) = true)
    {g_AboveRule_renamed : Addr} {god_AboveRule_renamed gan_AboveRule_renamed : Option Addr} {gsl_AboveRule_renamed : Array (Option Value)} {goc_AboveRule_renamed gkV_AboveRule_renamed gdc_AboveRule_renamed gpm_AboveRule_renamed gcd_AboveRule_renamed gct_AboveRule_renamed : Value}
    (ma_AboveRule_renamed : PySem.W.findIn K (.ref O_AboveRule) "renamed" = some (some (.ref g_AboveRule_renamed)))
    (ml_AboveRule_renamed : K.lookup g_AboveRule_renamed = some ⟨goc_AboveRule_renamed, god_AboveRule_renamed, .func (PySem.W.fnOf "renamed" "AboveRule.renamed" (defArgs s_AboveRule_renamed) (defBody s_AboveRule_renamed) (defScope s_AboveRule_renamed) .none gkV_AboveRule_renamed gdc_AboveRule_renamed gpm_AboveRule_renamed gan_AboveRule_renamed gcd_AboveRule_renamed gct_AboveRule_renamed), gsl_AboveRule_renamed⟩)
    (mc_AboveRule_renamed : PySem.W.codeIn K gcd_AboveRule_renamed "AboveRule.renamed" = true)
    (mk_AboveRule_renamed : PySem.W.keepIn K (.ref g_AboveRule_renamed) = true)
    (mf_AboveRule_renamed : PySem.W.isFn K (.ref g_AboveRule_renamed) = true)
    {g_AboveRule_told : Addr} {god_AboveRule_told gan_AboveRule_told : Option Addr} {gsl_AboveRule_told : Array (Option Value)} {goc_AboveRule_told gkV_AboveRule_told gdc_AboveRule_told gpm_AboveRule_told gcd_AboveRule_told gct_AboveRule_told : Value}
    (ma_AboveRule_told : PySem.W.findIn K (.ref O_AboveRule) "told" = some (some (.ref g_AboveRule_told)))
    (ml_AboveRule_told : K.lookup g_AboveRule_told = some ⟨goc_AboveRule_told, god_AboveRule_told, .func (PySem.W.fnOf "told" "AboveRule.told" (defArgs s_AboveRule_told) (defBody s_AboveRule_told) (defScope s_AboveRule_told) .none gkV_AboveRule_told gdc_AboveRule_told gpm_AboveRule_told gan_AboveRule_told gcd_AboveRule_told gct_AboveRule_told), gsl_AboveRule_told⟩)
    (mc_AboveRule_told : PySem.W.codeIn K gcd_AboveRule_told "AboveRule.told" = true)
    (mk_AboveRule_told : PySem.W.keepIn K (.ref g_AboveRule_told) = true)
    (mf_AboveRule_told : PySem.W.isFn K (.ref g_AboveRule_told) = true)
    (ma_AboveRule_begun : PySem.W.findIn K (.ref O_AboveRule) "begun" = some (some (.ref g_Rule_begun)))
    (na_TurnRule_part : PySem.W.findIn K (.ref O_TurnRule) "part" = some none)
    (na_TurnRule_turning : PySem.W.findIn K (.ref O_TurnRule) "turning" = some none)
    (na_TurnRule_name : PySem.W.findIn K (.ref O_TurnRule) "name" = some none)
    (na_TurnRule_cost : PySem.W.findIn K (.ref O_TurnRule) "cost" = some none)
    {g_TurnRule_init : Addr} {god_TurnRule_init gan_TurnRule_init : Option Addr} {gsl_TurnRule_init : Array (Option Value)} {goc_TurnRule_init gkV_TurnRule_init gdc_TurnRule_init gpm_TurnRule_init gcd_TurnRule_init gct_TurnRule_init : Value}
    (ma_TurnRule_init : PySem.W.findIn K (.ref O_TurnRule) "__init__" = some (some (.ref g_TurnRule_init)))
    (ml_TurnRule_init : K.lookup g_TurnRule_init = some ⟨goc_TurnRule_init, god_TurnRule_init, .func (PySem.W.fnOf "__init__" "TurnRule.__init__" (defArgs s_TurnRule_init) (defBody s_TurnRule_init) (defScope s_TurnRule_init) .none gkV_TurnRule_init gdc_TurnRule_init gpm_TurnRule_init gan_TurnRule_init gcd_TurnRule_init gct_TurnRule_init), gsl_TurnRule_init⟩)
    (mc_TurnRule_init : PySem.W.codeIn K gcd_TurnRule_init "TurnRule.__init__" = true)
    (mk_TurnRule_init : PySem.W.keepIn K (.ref g_TurnRule_init) = true)
    (mf_TurnRule_init : PySem.W.isFn K (.ref g_TurnRule_init) = true)
    {g_TurnRule_parts : Addr} {god_TurnRule_parts gan_TurnRule_parts : Option Addr} {gsl_TurnRule_parts : Array (Option Value)} {goc_TurnRule_parts gkV_TurnRule_parts gdc_TurnRule_parts gpm_TurnRule_parts gcd_TurnRule_parts gct_TurnRule_parts : Value}
    (ma_TurnRule_parts : PySem.W.findIn K (.ref O_TurnRule) "parts" = some (some (.ref g_TurnRule_parts)))
    (ml_TurnRule_parts : K.lookup g_TurnRule_parts = some ⟨goc_TurnRule_parts, god_TurnRule_parts, .func (PySem.W.fnOf "parts" "TurnRule.parts" (defArgs s_TurnRule_parts) (defBody s_TurnRule_parts) (defScope s_TurnRule_parts) .none gkV_TurnRule_parts gdc_TurnRule_parts gpm_TurnRule_parts gan_TurnRule_parts gcd_TurnRule_parts gct_TurnRule_parts), gsl_TurnRule_parts⟩)
    (mc_TurnRule_parts : PySem.W.codeIn K gcd_TurnRule_parts "TurnRule.parts" = true)
    (mk_TurnRule_parts : PySem.W.keepIn K (.ref g_TurnRule_parts) = true)
    (mf_TurnRule_parts : PySem.W.isFn K (.ref g_TurnRule_parts) = true)
    {g_TurnRule_renamed : Addr} {god_TurnRule_renamed gan_TurnRule_renamed : Option Addr} {gsl_TurnRule_renamed : Array (Option Value)} {goc_TurnRule_renamed gkV_TurnRule_renamed gdc_TurnRule_renamed gpm_TurnRule_renamed gcd_TurnRule_renamed gct_TurnRule_renamed : Value}
    (ma_TurnRule_renamed : PySem.W.findIn K (.ref O_TurnRule) "renamed" = some (some (.ref g_TurnRule_renamed)))
    (ml_TurnRule_renamed : K.lookup g_TurnRule_renamed = some ⟨goc_TurnRule_renamed, god_TurnRule_renamed, .func (PySem.W.fnOf "renamed" "TurnRule.renamed" (defArgs s_TurnRule_renamed) (defBody s_TurnRule_renamed) (defScope s_TurnRule_renamed) .none gkV_TurnRule_renamed gdc_TurnRule_renamed gpm_TurnRule_renamed gan_TurnRule_renamed gcd_TurnRule_renamed gct_TurnRule_renamed), gsl_TurnRule_renamed⟩)
    (mc_TurnRule_renamed : PySem.W.codeIn K gcd_TurnRule_renamed "TurnRule.renamed" = true)
    (mk_TurnRule_renamed : PySem.W.keepIn K (.ref g_TurnRule_renamed) = true)
    (mf_TurnRule_renamed : PySem.W.isFn K (.ref g_TurnRule_renamed) = true)
    {g_TurnRule_told : Addr} {god_TurnRule_told gan_TurnRule_told : Option Addr} {gsl_TurnRule_told : Array (Option Value)} {goc_TurnRule_told gkV_TurnRule_told gdc_TurnRule_told gpm_TurnRule_told gcd_TurnRule_told gct_TurnRule_told : Value}
    (ma_TurnRule_told : PySem.W.findIn K (.ref O_TurnRule) "told" = some (some (.ref g_TurnRule_told)))
    (ml_TurnRule_told : K.lookup g_TurnRule_told = some ⟨goc_TurnRule_told, god_TurnRule_told, .func (PySem.W.fnOf "told" "TurnRule.told" (defArgs s_TurnRule_told) (defBody s_TurnRule_told) (defScope s_TurnRule_told) .none gkV_TurnRule_told gdc_TurnRule_told gpm_TurnRule_told gan_TurnRule_told gcd_TurnRule_told gct_TurnRule_told), gsl_TurnRule_told⟩)
    (mc_TurnRule_told : PySem.W.codeIn K gcd_TurnRule_told "TurnRule.told" = true)
    (mk_TurnRule_told : PySem.W.keepIn K (.ref g_TurnRule_told) = true)
    (mf_TurnRule_told : PySem.W.isFn K (.ref g_TurnRule_told) = true)
    (ma_TurnRule_begun : PySem.W.findIn K (.ref O_TurnRule) "begun" = some (some (.ref g_Rule_begun)))
    (na_Grammar_signs : PySem.W.findIn K (.ref O_Grammar) "signs" = some none)
    (na_Grammar_start : PySem.W.findIn K (.ref O_Grammar) "start" = some none)
    (na_Grammar_kept_rules : PySem.W.findIn K (.ref O_Grammar) "kept_rules" = some none)
    (na_Grammar_kept_names : PySem.W.findIn K (.ref O_Grammar) "kept_names" = some none)
    {g_Grammar_init : Addr} {god_Grammar_init gan_Grammar_init : Option Addr} {gsl_Grammar_init : Array (Option Value)} {goc_Grammar_init gkV_Grammar_init gdc_Grammar_init gpm_Grammar_init gcd_Grammar_init gct_Grammar_init : Value}
    (ma_Grammar_init : PySem.W.findIn K (.ref O_Grammar) "__init__" = some (some (.ref g_Grammar_init)))
    (ml_Grammar_init : K.lookup g_Grammar_init = some ⟨goc_Grammar_init, god_Grammar_init, .func (PySem.W.fnOf "__init__" "Grammar.__init__" (defArgs s_Grammar_init) (defBody s_Grammar_init) (defScope s_Grammar_init) .none gkV_Grammar_init gdc_Grammar_init gpm_Grammar_init gan_Grammar_init gcd_Grammar_init gct_Grammar_init), gsl_Grammar_init⟩)
    (mc_Grammar_init : PySem.W.codeIn K gcd_Grammar_init "Grammar.__init__" = true)
    (mk_Grammar_init : PySem.W.keepIn K (.ref g_Grammar_init) = true)
    (mf_Grammar_init : PySem.W.isFn K (.ref g_Grammar_init) = true)
    {g_Grammar_rules : Addr} {god_Grammar_rules gan_Grammar_rules : Option Addr} {gsl_Grammar_rules : Array (Option Value)} {goc_Grammar_rules gkV_Grammar_rules gdc_Grammar_rules gpm_Grammar_rules gcd_Grammar_rules gct_Grammar_rules : Value}
    (ma_Grammar_rules : PySem.W.findIn K (.ref O_Grammar) "rules" = some (some (.ref g_Grammar_rules)))
    (ml_Grammar_rules : K.lookup g_Grammar_rules = some ⟨goc_Grammar_rules, god_Grammar_rules, .func (PySem.W.fnOf "rules" "Grammar.rules" (defArgs s_Grammar_rules) (defBody s_Grammar_rules) (defScope s_Grammar_rules) .none gkV_Grammar_rules gdc_Grammar_rules gpm_Grammar_rules gan_Grammar_rules gcd_Grammar_rules gct_Grammar_rules), gsl_Grammar_rules⟩)
    (mc_Grammar_rules : PySem.W.codeIn K gcd_Grammar_rules "Grammar.rules" = true)
    (mk_Grammar_rules : PySem.W.keepIn K (.ref g_Grammar_rules) = true)
    (mf_Grammar_rules : PySem.W.isFn K (.ref g_Grammar_rules) = true)
    {g_Grammar_many : Addr} {god_Grammar_many gan_Grammar_many : Option Addr} {gsl_Grammar_many : Array (Option Value)} {goc_Grammar_many gkV_Grammar_many gdc_Grammar_many gpm_Grammar_many gcd_Grammar_many gct_Grammar_many : Value}
    (ma_Grammar_many : PySem.W.findIn K (.ref O_Grammar) "many" = some (some (.ref g_Grammar_many)))
    (ml_Grammar_many : K.lookup g_Grammar_many = some ⟨goc_Grammar_many, god_Grammar_many, .func (PySem.W.fnOf "many" "Grammar.many" (defArgs s_Grammar_many) (defBody s_Grammar_many) (defScope s_Grammar_many) .none gkV_Grammar_many gdc_Grammar_many gpm_Grammar_many gan_Grammar_many gcd_Grammar_many gct_Grammar_many), gsl_Grammar_many⟩)
    (mc_Grammar_many : PySem.W.codeIn K gcd_Grammar_many "Grammar.many" = true)
    (mk_Grammar_many : PySem.W.keepIn K (.ref g_Grammar_many) = true)
    (mf_Grammar_many : PySem.W.isFn K (.ref g_Grammar_many) = true)
    {g_Grammar_names : Addr} {god_Grammar_names gan_Grammar_names : Option Addr} {gsl_Grammar_names : Array (Option Value)} {goc_Grammar_names gkV_Grammar_names gdc_Grammar_names gpm_Grammar_names gcd_Grammar_names gct_Grammar_names : Value}
    (ma_Grammar_names : PySem.W.findIn K (.ref O_Grammar) "names" = some (some (.ref g_Grammar_names)))
    (ml_Grammar_names : K.lookup g_Grammar_names = some ⟨goc_Grammar_names, god_Grammar_names, .func (PySem.W.fnOf "names" "Grammar.names" (defArgs s_Grammar_names) (defBody s_Grammar_names) (defScope s_Grammar_names) .none gkV_Grammar_names gdc_Grammar_names gpm_Grammar_names gan_Grammar_names gcd_Grammar_names gct_Grammar_names), gsl_Grammar_names⟩)
    (mc_Grammar_names : PySem.W.codeIn K gcd_Grammar_names "Grammar.names" = true)
    (mk_Grammar_names : PySem.W.keepIn K (.ref g_Grammar_names) = true)
    (mf_Grammar_names : PySem.W.isFn K (.ref g_Grammar_names) = true)
    {g_Grammar_told : Addr} {god_Grammar_told gan_Grammar_told : Option Addr} {gsl_Grammar_told : Array (Option Value)} {goc_Grammar_told gkV_Grammar_told gdc_Grammar_told gpm_Grammar_told gcd_Grammar_told gct_Grammar_told : Value}
    (ma_Grammar_told : PySem.W.findIn K (.ref O_Grammar) "told" = some (some (.ref g_Grammar_told)))
    (ml_Grammar_told : K.lookup g_Grammar_told = some ⟨goc_Grammar_told, god_Grammar_told, .func (PySem.W.fnOf "told" "Grammar.told" (defArgs s_Grammar_told) (defBody s_Grammar_told) (defScope s_Grammar_told) .none gkV_Grammar_told gdc_Grammar_told gpm_Grammar_told gan_Grammar_told gcd_Grammar_told gct_Grammar_told), gsl_Grammar_told⟩)
    (mc_Grammar_told : PySem.W.codeIn K gcd_Grammar_told "Grammar.told" = true)
    (mk_Grammar_told : PySem.W.keepIn K (.ref g_Grammar_told) = true)
    (mf_Grammar_told : PySem.W.isFn K (.ref g_Grammar_told) = true)
    (ia_Rule : PySem.W.specialIn K (.ref O_Rule) "__getattribute__" = some (some (.builtin "type.__getattribute__")))
    (ib_Rule : PySem.W.readsIn K O_Rule (.type "type") = true)
    (ic_Rule : PySem.W.findCls K (.ref O_Rule) (.type "type") "__init__" = some (.val (.ref g_Rule_init)))
    (ou_CellRule_CellRule : PySem.W.subIn K (.ref O_CellRule) (.ref O_CellRule) = some true)
    (ou_BesideRule_CellRule : PySem.W.subIn K (.ref O_BesideRule) (.ref O_CellRule) = some false)
    (ov_BesideRule_CellRule : ¬ O_BesideRule = O_CellRule)
    (ou_AboveRule_CellRule : PySem.W.subIn K (.ref O_AboveRule) (.ref O_CellRule) = some false)
    (ov_AboveRule_CellRule : ¬ O_AboveRule = O_CellRule)
    (ou_TurnRule_CellRule : PySem.W.subIn K (.ref O_TurnRule) (.ref O_CellRule) = some false)
    (ov_TurnRule_CellRule : ¬ O_TurnRule = O_CellRule)
    (ou_Grammar_CellRule : PySem.W.subIn K (.ref O_Grammar) (.ref O_CellRule) = some false)
    (ov_Grammar_CellRule : ¬ O_Grammar = O_CellRule)
    {f_wall : Addr} {od_wall an_wall : Option Addr} {sl_wall : Array (Option Value)} {oc_wall kV_wall dc_wall pm_wall cd_wall ct_wall : Value} (a_wall : PySem.W.nsIn K mainGlobals "_wall" = some (some (.ref f_wall))) (l_wall : K.lookup f_wall = some ⟨oc_wall, od_wall, .func (PySem.W.fnOf "_wall" "_wall" (defArgs s_wall) (defBody s_wall) (defScope s_wall) .none kV_wall dc_wall pm_wall an_wall cd_wall ct_wall), sl_wall⟩) (c_wall : PySem.W.codeIn K cd_wall "_wall" = true) (k_wall : PySem.W.keepIn K (.ref f_wall) = true)
    {f_beside : Addr} {od_beside an_beside : Option Addr} {sl_beside : Array (Option Value)} {oc_beside kV_beside dc_beside pm_beside cd_beside ct_beside : Value} (a_beside : PySem.W.nsIn K mainGlobals "beside" = some (some (.ref f_beside))) (l_beside : K.lookup f_beside = some ⟨oc_beside, od_beside, .func (PySem.W.fnOf "beside" "beside" (defArgs s_beside) (defBody s_beside) (defScope s_beside) .none kV_beside dc_beside pm_beside an_beside cd_beside ct_beside), sl_beside⟩) (c_beside : PySem.W.codeIn K cd_beside "beside" = true) (k_beside : PySem.W.keepIn K (.ref f_beside) = true)
    {f_above : Addr} {od_above an_above : Option Addr} {sl_above : Array (Option Value)} {oc_above kV_above dc_above pm_above cd_above ct_above : Value} (a_above : PySem.W.nsIn K mainGlobals "above" = some (some (.ref f_above))) (l_above : K.lookup f_above = some ⟨oc_above, od_above, .func (PySem.W.fnOf "above" "above" (defArgs s_above) (defBody s_above) (defScope s_above) .none kV_above dc_above pm_above an_above cd_above ct_above), sl_above⟩) (c_above : PySem.W.codeIn K cd_above "above" = true) (k_above : PySem.W.keepIn K (.ref f_above) = true)
    {f_quarter : Addr} {od_quarter an_quarter : Option Addr} {sl_quarter : Array (Option Value)} {oc_quarter kV_quarter dc_quarter pm_quarter cd_quarter ct_quarter : Value} (a_quarter : PySem.W.nsIn K mainGlobals "quarter" = some (some (.ref f_quarter))) (l_quarter : K.lookup f_quarter = some ⟨oc_quarter, od_quarter, .func (PySem.W.fnOf "quarter" "quarter" (defArgs s_quarter) (defBody s_quarter) (defScope s_quarter) .none kV_quarter dc_quarter pm_quarter an_quarter cd_quarter ct_quarter), sl_quarter⟩) (c_quarter : PySem.W.codeIn K cd_quarter "quarter" = true) (k_quarter : PySem.W.keepIn K (.ref f_quarter) = true)
    {f_mirrored : Addr} {od_mirrored an_mirrored : Option Addr} {sl_mirrored : Array (Option Value)} {oc_mirrored kV_mirrored dc_mirrored pm_mirrored cd_mirrored ct_mirrored : Value} (a_mirrored : PySem.W.nsIn K mainGlobals "mirrored" = some (some (.ref f_mirrored))) (l_mirrored : K.lookup f_mirrored = some ⟨oc_mirrored, od_mirrored, .func (PySem.W.fnOf "mirrored" "mirrored" (defArgs s_mirrored) (defBody s_mirrored) (defScope s_mirrored) .none kV_mirrored dc_mirrored pm_mirrored an_mirrored cd_mirrored ct_mirrored), sl_mirrored⟩) (c_mirrored : PySem.W.codeIn K cd_mirrored "mirrored" = true) (k_mirrored : PySem.W.keepIn K (.ref f_mirrored) = true)
    {f_turned : Addr} {od_turned an_turned : Option Addr} {sl_turned : Array (Option Value)} {oc_turned kV_turned dc_turned pm_turned cd_turned ct_turned : Value} (a_turned : PySem.W.nsIn K mainGlobals "turned" = some (some (.ref f_turned))) (l_turned : K.lookup f_turned = some ⟨oc_turned, od_turned, .func (PySem.W.fnOf "turned" "turned" (defArgs s_turned) (defBody s_turned) (defScope s_turned) .none kV_turned dc_turned pm_turned an_turned cd_turned ct_turned), sl_turned⟩) (c_turned : PySem.W.codeIn K cd_turned "turned" = true) (k_turned : PySem.W.keepIn K (.ref f_turned) = true)
    {f_after : Addr} {od_after an_after : Option Addr} {sl_after : Array (Option Value)} {oc_after kV_after dc_after pm_after cd_after ct_after : Value} (a_after : PySem.W.nsIn K mainGlobals "after" = some (some (.ref f_after))) (l_after : K.lookup f_after = some ⟨oc_after, od_after, .func (PySem.W.fnOf "after" "after" (defArgs s_after) (defBody s_after) (defScope s_after) .none kV_after dc_after pm_after an_after cd_after ct_after), sl_after⟩) (c_after : PySem.W.codeIn K cd_after "after" = true) (k_after : PySem.W.keepIn K (.ref f_after) = true)
    {f_back : Addr} {od_back an_back : Option Addr} {sl_back : Array (Option Value)} {oc_back kV_back dc_back pm_back cd_back ct_back : Value} (a_back : PySem.W.nsIn K mainGlobals "back" = some (some (.ref f_back))) (l_back : K.lookup f_back = some ⟨oc_back, od_back, .func (PySem.W.fnOf "back" "back" (defArgs s_back) (defBody s_back) (defScope s_back) .none kV_back dc_back pm_back an_back cd_back ct_back), sl_back⟩) (c_back : PySem.W.codeIn K cd_back "back" = true) (k_back : PySem.W.keepIn K (.ref f_back) = true)
    {f_is_name : Addr} {od_is_name an_is_name : Option Addr} {sl_is_name : Array (Option Value)} {oc_is_name kV_is_name dc_is_name pm_is_name cd_is_name ct_is_name : Value} (a_is_name : PySem.W.nsIn K mainGlobals "is_name" = some (some (.ref f_is_name))) (l_is_name : K.lookup f_is_name = some ⟨oc_is_name, od_is_name, .func (PySem.W.fnOf "is_name" "is_name" (defArgs s_is_name) (defBody s_is_name) (defScope s_is_name) .none kV_is_name dc_is_name pm_is_name an_is_name cd_is_name ct_is_name), sl_is_name⟩) (c_is_name : PySem.W.codeIn K cd_is_name "is_name" = true) (k_is_name : PySem.W.keepIn K (.ref f_is_name) = true)
    {f_asked_name : Addr} {od_asked_name an_asked_name : Option Addr} {sl_asked_name : Array (Option Value)} {oc_asked_name kV_asked_name dc_asked_name pm_asked_name cd_asked_name ct_asked_name : Value} (a_asked_name : PySem.W.nsIn K mainGlobals "asked_name" = some (some (.ref f_asked_name))) (l_asked_name : K.lookup f_asked_name = some ⟨oc_asked_name, od_asked_name, .func (PySem.W.fnOf "asked_name" "asked_name" (defArgs s_asked_name) (defBody s_asked_name) (defScope s_asked_name) .none kV_asked_name dc_asked_name pm_asked_name an_asked_name cd_asked_name ct_asked_name), sl_asked_name⟩) (c_asked_name : PySem.W.codeIn K cd_asked_name "asked_name" = true) (k_asked_name : PySem.W.keepIn K (.ref f_asked_name) = true)
    {f_turned_pair : Addr} {od_turned_pair an_turned_pair : Option Addr} {sl_turned_pair : Array (Option Value)} {oc_turned_pair kV_turned_pair dc_turned_pair pm_turned_pair cd_turned_pair ct_turned_pair : Value} (a_turned_pair : PySem.W.nsIn K mainGlobals "turned_pair" = some (some (.ref f_turned_pair))) (l_turned_pair : K.lookup f_turned_pair = some ⟨oc_turned_pair, od_turned_pair, .func (PySem.W.fnOf "turned_pair" "turned_pair" (defArgs s_turned_pair) (defBody s_turned_pair) (defScope s_turned_pair) .none kV_turned_pair dc_turned_pair pm_turned_pair an_turned_pair cd_turned_pair ct_turned_pair), sl_turned_pair⟩) (c_turned_pair : PySem.W.codeIn K cd_turned_pair "turned_pair" = true) (k_turned_pair : PySem.W.keepIn K (.ref f_turned_pair) = true)
    {f_are_signs : Addr} {od_are_signs an_are_signs : Option Addr} {sl_are_signs : Array (Option Value)} {oc_are_signs kV_are_signs dc_are_signs pm_are_signs cd_are_signs ct_are_signs : Value} (a_are_signs : PySem.W.nsIn K mainGlobals "are_signs" = some (some (.ref f_are_signs))) (l_are_signs : K.lookup f_are_signs = some ⟨oc_are_signs, od_are_signs, .func (PySem.W.fnOf "are_signs" "are_signs" (defArgs s_are_signs) (defBody s_are_signs) (defScope s_are_signs) .none kV_are_signs dc_are_signs pm_are_signs an_are_signs cd_are_signs ct_are_signs), sl_are_signs⟩) (c_are_signs : PySem.W.codeIn K cd_are_signs "are_signs" = true) (k_are_signs : PySem.W.keepIn K (.ref f_are_signs) = true)
    {f_names_met : Addr} {od_names_met an_names_met : Option Addr} {sl_names_met : Array (Option Value)} {oc_names_met kV_names_met dc_names_met pm_names_met cd_names_met ct_names_met : Value} (a_names_met : PySem.W.nsIn K mainGlobals "names_met" = some (some (.ref f_names_met))) (l_names_met : K.lookup f_names_met = some ⟨oc_names_met, od_names_met, .func (PySem.W.fnOf "names_met" "names_met" (defArgs s_names_met) (defBody s_names_met) (defScope s_names_met) .none kV_names_met dc_names_met pm_names_met an_names_met cd_names_met ct_names_met), sl_names_met⟩) (c_names_met : PySem.W.codeIn K cd_names_met "names_met" = true) (k_names_met : PySem.W.keepIn K (.ref f_names_met) = true)
    {f_asked_rules : Addr} {od_asked_rules an_asked_rules : Option Addr} {sl_asked_rules : Array (Option Value)} {oc_asked_rules kV_asked_rules dc_asked_rules pm_asked_rules cd_asked_rules ct_asked_rules : Value} (a_asked_rules : PySem.W.nsIn K mainGlobals "asked_rules" = some (some (.ref f_asked_rules))) (l_asked_rules : K.lookup f_asked_rules = some ⟨oc_asked_rules, od_asked_rules, .func (PySem.W.fnOf "asked_rules" "asked_rules" (defArgs s_asked_rules) (defBody s_asked_rules) (defScope s_asked_rules) .none kV_asked_rules dc_asked_rules pm_asked_rules an_asked_rules cd_asked_rules ct_asked_rules), sl_asked_rules⟩) (c_asked_rules : PySem.W.codeIn K cd_asked_rules "asked_rules" = true) (k_asked_rules : PySem.W.keepIn K (.ref f_asked_rules) = true)
    {f_new_names : Addr} {od_new_names an_new_names : Option Addr} {sl_new_names : Array (Option Value)} {oc_new_names kV_new_names dc_new_names pm_new_names cd_new_names ct_new_names : Value} (a_new_names : PySem.W.nsIn K mainGlobals "new_names" = some (some (.ref f_new_names))) (l_new_names : K.lookup f_new_names = some ⟨oc_new_names, od_new_names, .func (PySem.W.fnOf "new_names" "new_names" (defArgs s_new_names) (defBody s_new_names) (defScope s_new_names) .none kV_new_names dc_new_names pm_new_names an_new_names cd_new_names ct_new_names), sl_new_names⟩) (c_new_names : PySem.W.codeIn K cd_new_names "new_names" = true) (k_new_names : PySem.W.keepIn K (.ref f_new_names) = true)
    {f_joint_rules : Addr} {od_joint_rules an_joint_rules : Option Addr} {sl_joint_rules : Array (Option Value)} {oc_joint_rules kV_joint_rules dc_joint_rules pm_joint_rules cd_joint_rules ct_joint_rules : Value} (a_joint_rules : PySem.W.nsIn K mainGlobals "joint_rules" = some (some (.ref f_joint_rules))) (l_joint_rules : K.lookup f_joint_rules = some ⟨oc_joint_rules, od_joint_rules, .func (PySem.W.fnOf "joint_rules" "joint_rules" (defArgs s_joint_rules) (defBody s_joint_rules) (defScope s_joint_rules) .none kV_joint_rules dc_joint_rules pm_joint_rules an_joint_rules cd_joint_rules ct_joint_rules), sl_joint_rules⟩) (c_joint_rules : PySem.W.codeIn K cd_joint_rules "joint_rules" = true) (k_joint_rules : PySem.W.keepIn K (.ref f_joint_rules) = true)
    {f_joined : Addr} {od_joined an_joined : Option Addr} {sl_joined : Array (Option Value)} {oc_joined kV_joined dc_joined pm_joined cd_joined ct_joined : Value} (a_joined : PySem.W.nsIn K mainGlobals "joined" = some (some (.ref f_joined))) (l_joined : K.lookup f_joined = some ⟨oc_joined, od_joined, .func (PySem.W.fnOf "joined" "joined" (defArgs s_joined) (defBody s_joined) (defScope s_joined) .none kV_joined dc_joined pm_joined an_joined cd_joined ct_joined), sl_joined⟩) (c_joined : PySem.W.codeIn K cd_joined "joined" = true) (k_joined : PySem.W.keepIn K (.ref f_joined) = true)
    {f_law_mix : Addr} {od_law_mix an_law_mix : Option Addr} {sl_law_mix : Array (Option Value)} {oc_law_mix kV_law_mix dc_law_mix pm_law_mix cd_law_mix ct_law_mix : Value} (a_law_mix : PySem.W.nsIn K mainGlobals "_law_mix" = some (some (.ref f_law_mix))) (l_law_mix : K.lookup f_law_mix = some ⟨oc_law_mix, od_law_mix, .func (PySem.W.fnOf "_law_mix" "_law_mix" (defArgs s_law_mix) (defBody s_law_mix) (defScope s_law_mix) .none kV_law_mix dc_law_mix pm_law_mix an_law_mix cd_law_mix ct_law_mix), sl_law_mix⟩) (c_law_mix : PySem.W.codeIn K cd_law_mix "_law_mix" = true) (k_law_mix : PySem.W.keepIn K (.ref f_law_mix) = true)
    {f_law_cell : Addr} {od_law_cell an_law_cell : Option Addr} {sl_law_cell : Array (Option Value)} {oc_law_cell kV_law_cell dc_law_cell pm_law_cell cd_law_cell ct_law_cell : Value} (a_law_cell : PySem.W.nsIn K mainGlobals "_law_cell" = some (some (.ref f_law_cell))) (l_law_cell : K.lookup f_law_cell = some ⟨oc_law_cell, od_law_cell, .func (PySem.W.fnOf "_law_cell" "_law_cell" (defArgs s_law_cell) (defBody s_law_cell) (defScope s_law_cell) .none kV_law_cell dc_law_cell pm_law_cell an_law_cell cd_law_cell ct_law_cell), sl_law_cell⟩) (c_law_cell : PySem.W.codeIn K cd_law_cell "_law_cell" = true) (k_law_cell : PySem.W.keepIn K (.ref f_law_cell) = true)
    {f_law_pool : Addr} {od_law_pool an_law_pool : Option Addr} {sl_law_pool : Array (Option Value)} {oc_law_pool kV_law_pool dc_law_pool pm_law_pool cd_law_pool ct_law_pool : Value} (a_law_pool : PySem.W.nsIn K mainGlobals "_law_pool" = some (some (.ref f_law_pool))) (l_law_pool : K.lookup f_law_pool = some ⟨oc_law_pool, od_law_pool, .func (PySem.W.fnOf "_law_pool" "_law_pool" (defArgs s_law_pool) (defBody s_law_pool) (defScope s_law_pool) .none kV_law_pool dc_law_pool pm_law_pool an_law_pool cd_law_pool ct_law_pool), sl_law_pool⟩) (c_law_pool : PySem.W.codeIn K cd_law_pool "_law_pool" = true) (k_law_pool : PySem.W.keepIn K (.ref f_law_pool) = true)
    {f_law_signs : Addr} {od_law_signs an_law_signs : Option Addr} {sl_law_signs : Array (Option Value)} {oc_law_signs kV_law_signs dc_law_signs pm_law_signs cd_law_signs ct_law_signs : Value} (a_law_signs : PySem.W.nsIn K mainGlobals "_law_signs" = some (some (.ref f_law_signs))) (l_law_signs : K.lookup f_law_signs = some ⟨oc_law_signs, od_law_signs, .func (PySem.W.fnOf "_law_signs" "_law_signs" (defArgs s_law_signs) (defBody s_law_signs) (defScope s_law_signs) .none kV_law_signs dc_law_signs pm_law_signs an_law_signs cd_law_signs ct_law_signs), sl_law_signs⟩) (c_law_signs : PySem.W.codeIn K cd_law_signs "_law_signs" = true) (k_law_signs : PySem.W.keepIn K (.ref f_law_signs) = true)
    {f_law_rows : Addr} {od_law_rows an_law_rows : Option Addr} {sl_law_rows : Array (Option Value)} {oc_law_rows kV_law_rows dc_law_rows pm_law_rows cd_law_rows ct_law_rows : Value} (a_law_rows : PySem.W.nsIn K mainGlobals "_law_rows" = some (some (.ref f_law_rows))) (l_law_rows : K.lookup f_law_rows = some ⟨oc_law_rows, od_law_rows, .func (PySem.W.fnOf "_law_rows" "_law_rows" (defArgs s_law_rows) (defBody s_law_rows) (defScope s_law_rows) .none kV_law_rows dc_law_rows pm_law_rows an_law_rows cd_law_rows ct_law_rows), sl_law_rows⟩) (c_law_rows : PySem.W.codeIn K cd_law_rows "_law_rows" = true) (k_law_rows : PySem.W.keepIn K (.ref f_law_rows) = true)
    {f_law_rule : Addr} {od_law_rule an_law_rule : Option Addr} {sl_law_rule : Array (Option Value)} {oc_law_rule kV_law_rule dc_law_rule pm_law_rule cd_law_rule ct_law_rule : Value} (a_law_rule : PySem.W.nsIn K mainGlobals "_law_rule" = some (some (.ref f_law_rule))) (l_law_rule : K.lookup f_law_rule = some ⟨oc_law_rule, od_law_rule, .func (PySem.W.fnOf "_law_rule" "_law_rule" (defArgs s_law_rule) (defBody s_law_rule) (defScope s_law_rule) .none kV_law_rule dc_law_rule pm_law_rule an_law_rule cd_law_rule ct_law_rule), sl_law_rule⟩) (c_law_rule : PySem.W.codeIn K cd_law_rule "_law_rule" = true) (k_law_rule : PySem.W.keepIn K (.ref f_law_rule) = true)
    {f_law_parts : Addr} {od_law_parts an_law_parts : Option Addr} {sl_law_parts : Array (Option Value)} {oc_law_parts kV_law_parts dc_law_parts pm_law_parts cd_law_parts ct_law_parts : Value} (a_law_parts : PySem.W.nsIn K mainGlobals "_law_parts" = some (some (.ref f_law_parts))) (l_law_parts : K.lookup f_law_parts = some ⟨oc_law_parts, od_law_parts, .func (PySem.W.fnOf "_law_parts" "_law_parts" (defArgs s_law_parts) (defBody s_law_parts) (defScope s_law_parts) .none kV_law_parts dc_law_parts pm_law_parts an_law_parts cd_law_parts ct_law_parts), sl_law_parts⟩) (c_law_parts : PySem.W.codeIn K cd_law_parts "_law_parts" = true) (k_law_parts : PySem.W.keepIn K (.ref f_law_parts) = true)
    {f_law_met : Addr} {od_law_met an_law_met : Option Addr} {sl_law_met : Array (Option Value)} {oc_law_met kV_law_met dc_law_met pm_law_met cd_law_met ct_law_met : Value} (a_law_met : PySem.W.nsIn K mainGlobals "_law_met" = some (some (.ref f_law_met))) (l_law_met : K.lookup f_law_met = some ⟨oc_law_met, od_law_met, .func (PySem.W.fnOf "_law_met" "_law_met" (defArgs s_law_met) (defBody s_law_met) (defScope s_law_met) .none kV_law_met dc_law_met pm_law_met an_law_met cd_law_met ct_law_met), sl_law_met⟩) (c_law_met : PySem.W.codeIn K cd_law_met "_law_met" = true) (k_law_met : PySem.W.keepIn K (.ref f_law_met) = true)
    {f_law_one : Addr} {od_law_one an_law_one : Option Addr} {sl_law_one : Array (Option Value)} {oc_law_one kV_law_one dc_law_one pm_law_one cd_law_one ct_law_one : Value} (a_law_one : PySem.W.nsIn K mainGlobals "_law_one" = some (some (.ref f_law_one))) (l_law_one : K.lookup f_law_one = some ⟨oc_law_one, od_law_one, .func (PySem.W.fnOf "_law_one" "_law_one" (defArgs s_law_one) (defBody s_law_one) (defScope s_law_one) .none kV_law_one dc_law_one pm_law_one an_law_one cd_law_one ct_law_one), sl_law_one⟩) (c_law_one : PySem.W.codeIn K cd_law_one "_law_one" = true) (k_law_one : PySem.W.keepIn K (.ref f_law_one) = true)
    {f_law_way : Addr} {od_law_way an_law_way : Option Addr} {sl_law_way : Array (Option Value)} {oc_law_way kV_law_way dc_law_way pm_law_way cd_law_way ct_law_way : Value} (a_law_way : PySem.W.nsIn K mainGlobals "_law_way" = some (some (.ref f_law_way))) (l_law_way : K.lookup f_law_way = some ⟨oc_law_way, od_law_way, .func (PySem.W.fnOf "_law_way" "_law_way" (defArgs s_law_way) (defBody s_law_way) (defScope s_law_way) .none kV_law_way dc_law_way pm_law_way an_law_way cd_law_way ct_law_way), sl_law_way⟩) (c_law_way : PySem.W.codeIn K cd_law_way "_law_way" = true) (k_law_way : PySem.W.keepIn K (.ref f_law_way) = true)
    {f_law_asked : Addr} {od_law_asked an_law_asked : Option Addr} {sl_law_asked : Array (Option Value)} {oc_law_asked kV_law_asked dc_law_asked pm_law_asked cd_law_asked ct_law_asked : Value} (a_law_asked : PySem.W.nsIn K mainGlobals "_law_asked" = some (some (.ref f_law_asked))) (l_law_asked : K.lookup f_law_asked = some ⟨oc_law_asked, od_law_asked, .func (PySem.W.fnOf "_law_asked" "_law_asked" (defArgs s_law_asked) (defBody s_law_asked) (defScope s_law_asked) .none kV_law_asked dc_law_asked pm_law_asked an_law_asked cd_law_asked ct_law_asked), sl_law_asked⟩) (c_law_asked : PySem.W.codeIn K cd_law_asked "_law_asked" = true) (k_law_asked : PySem.W.keepIn K (.ref f_law_asked) = true)
    : Txt K mg := ⟨PySem.W.mg_none_of X G zb_ValueError,
    PySem.W.mg_none_of X G zb_all,
    PySem.W.mg_none_of X G zb_enumerate,
    PySem.W.mg_none_of X G zb_int,
    PySem.W.mg_none_of X G zb_isinstance,
    PySem.W.mg_none_of X G zb_len,
    PySem.W.mg_none_of X G zb_list,
    PySem.W.mg_none_of X G zb_range,
    PySem.W.mg_none_of X G zb_reversed,
    PySem.W.mg_none_of X G zb_set,
    PySem.W.mg_none_of X G zb_str,
    PySem.W.mg_none_of X G zb_zip,
    ⟨_, PySem.W.mg_of X G zc_MOST⟩,
    ⟨_, PySem.W.mg_of X G zc_MIRROR⟩,
    ⟨_, PySem.W.mg_of X G zc_CAPITALS⟩,
    ⟨_, PySem.W.mg_of X G zc_SMALL⟩,
    ⟨_, PySem.W.mg_of X G zc_MOST_LETTERS⟩,
    ⟨_, PySem.W.mg_of X G zc_MOST_COST⟩,
    ⟨_, PySem.W.mg_of X G zc_MOST_SIGNS⟩,
    ⟨_, PySem.W.mg_of X G zc_MOST_RULES⟩,
    ⟨_, PySem.W.mg_of X G zc_MOST_NAMES⟩,
    ⟨_, PySem.W.mg_of X G zc_JOINT⟩,
    ⟨_, PySem.W.mg_of X G zc_FIRST⟩,
    ⟨_, PySem.W.mg_of X G zc_SECOND⟩,
    ⟨C_QuiltError, ⟨xa_QuiltError, xk_QuiltError, xt_QuiltError, xg_QuiltError, xh_QuiltError, xs_QuiltError, xd_QuiltError, xc_QuiltError, xn, xq, xm_QuiltError⟩, PySem.W.mg_of X G xa_QuiltError⟩,
    ⟨C_NoFit, ⟨xa_NoFit, xk_NoFit, xt_NoFit, xg_NoFit, xh_NoFit, xs_NoFit, xd_NoFit, xc_NoFit, xn, xq, xm_NoFit⟩, PySem.W.mg_of X G xa_NoFit⟩,
    ⟨C_NoRule, ⟨xa_NoRule, xk_NoRule, xt_NoRule, xg_NoRule, xh_NoRule, xs_NoRule, xd_NoRule, xc_NoRule, xn, xq, xm_NoRule⟩, PySem.W.mg_of X G xa_NoRule⟩,
    ⟨C_NoGrammar, ⟨xa_NoGrammar, xk_NoGrammar, xt_NoGrammar, xg_NoGrammar, xh_NoGrammar, xs_NoGrammar, xd_NoGrammar, xc_NoGrammar, xn, xq, xm_NoGrammar⟩, PySem.W.mg_of X G xa_NoGrammar⟩,
    ⟨C_TooMany, ⟨xa_TooMany, xk_TooMany, xt_TooMany, xg_TooMany, xh_TooMany, xs_TooMany, xd_TooMany, xc_TooMany, xn, xq, xm_TooMany⟩, PySem.W.mg_of X G xa_TooMany⟩,
    XPlain.mk xa_NoRule xp_NoRule,
    XPlain.mk xa_NoFit xp_NoFit,
    ⟨C_NoGrammar, fI_NoGrammar, _, xa_NoGrammar, ⟨⟨_, _, _, _, _, _, _, _, _, _, _, _, _, _, _, xl_NoGrammar, xv_NoGrammar⟩, xw_NoGrammar, xs_NoGrammar, xt_NoGrammar, xk_NoGrammar⟩, xf_NoGrammar, xi_NoGrammar, xj_NoGrammar, fun_mk xo_NoGrammar xu_NoGrammar xz_NoGrammar, (fun_mk (st := s_NoGrammar_init) xo_NoGrammar xu_NoGrammar xz_NoGrammar).binds fun _ _ _ _ _ _ us hl => match us, hl with | [_, _], _ => rfl⟩,
    XPlain.mk xa_TooMany xp_TooMany,
    ⟨C_QuiltError, PySem.W.mg_of X G xa_QuiltError, qs_QuiltError, qr_QuiltError, qf_QuiltError⟩,
    XSub.mk xa_NoRule xa_QuiltError xt_QuiltError xs_QuiltError xd_QuiltError y_NoRule_QuiltError (fun _ => rfl),
    XSub.mk xa_NoRule xa_NoRule xt_NoRule xs_NoRule xd_NoRule y_NoRule_NoRule (fun _ => rfl),
    XSub.mk xa_NoRule xa_TooMany xt_TooMany xs_TooMany xd_TooMany y_NoRule_TooMany (fun e => absurd e d_NoRule_TooMany),
    XSub.mk xa_NoRule xa_NoGrammar xt_NoGrammar xs_NoGrammar xd_NoGrammar y_NoRule_NoGrammar (fun e => absurd e d_NoRule_NoGrammar),
    XSubT.mk (by decide +kernel) xa_NoRule y_NoRule_ValueError,
    XSub.mk xa_NoFit xa_QuiltError xt_QuiltError xs_QuiltError xd_QuiltError y_NoFit_QuiltError (fun _ => rfl),
    XSub.mk xa_NoFit xa_NoRule xt_NoRule xs_NoRule xd_NoRule y_NoFit_NoRule (fun e => absurd e d_NoFit_NoRule),
    XSub.mk xa_NoFit xa_TooMany xt_TooMany xs_TooMany xd_TooMany y_NoFit_TooMany (fun e => absurd e d_NoFit_TooMany),
    XSub.mk xa_NoFit xa_NoGrammar xt_NoGrammar xs_NoGrammar xd_NoGrammar y_NoFit_NoGrammar (fun e => absurd e d_NoFit_NoGrammar),
    XSubT.mk (by decide +kernel) xa_NoFit y_NoFit_ValueError,
    XSub.mk xa_NoGrammar xa_QuiltError xt_QuiltError xs_QuiltError xd_QuiltError y_NoGrammar_QuiltError (fun _ => rfl),
    XSub.mk xa_NoGrammar xa_NoRule xt_NoRule xs_NoRule xd_NoRule y_NoGrammar_NoRule (fun e => absurd e d_NoGrammar_NoRule),
    XSub.mk xa_NoGrammar xa_TooMany xt_TooMany xs_TooMany xd_TooMany y_NoGrammar_TooMany (fun e => absurd e d_NoGrammar_TooMany),
    XSub.mk xa_NoGrammar xa_NoGrammar xt_NoGrammar xs_NoGrammar xd_NoGrammar y_NoGrammar_NoGrammar (fun _ => rfl),
    XSubT.mk (by decide +kernel) xa_NoGrammar y_NoGrammar_ValueError,
    XSub.mk xa_TooMany xa_QuiltError xt_QuiltError xs_QuiltError xd_QuiltError y_TooMany_QuiltError (fun _ => rfl),
    XSub.mk xa_TooMany xa_NoRule xt_NoRule xs_NoRule xd_NoRule y_TooMany_NoRule (fun e => absurd e d_TooMany_NoRule),
    XSub.mk xa_TooMany xa_TooMany xt_TooMany xs_TooMany xd_TooMany y_TooMany_TooMany (fun _ => rfl),
    XSub.mk xa_TooMany xa_NoGrammar xt_NoGrammar xs_NoGrammar xd_NoGrammar y_TooMany_NoGrammar (fun e => absurd e d_TooMany_NoGrammar),
    XSubT.mk (by decide +kernel) xa_TooMany y_TooMany_ValueError,
    ⟨O_Rule, ⟨oa_Rule, ⟨ob_Rule, oc_Rule, od_Rule, oe_Rule⟩, of_Rule, og_Rule, oh_Rule, oi_Rule, xn, xq, oj_Rule⟩, PySem.W.mg_of X G oa_Rule⟩,
    ⟨O_CellRule, ⟨oa_CellRule, ⟨ob_CellRule, oc_CellRule, od_CellRule, oe_CellRule⟩, of_CellRule, og_CellRule, oh_CellRule, oi_CellRule, xn, xq, oj_CellRule⟩, PySem.W.mg_of X G oa_CellRule⟩,
    ⟨O_BesideRule, ⟨oa_BesideRule, ⟨ob_BesideRule, oc_BesideRule, od_BesideRule, oe_BesideRule⟩, of_BesideRule, og_BesideRule, oh_BesideRule, oi_BesideRule, xn, xq, oj_BesideRule⟩, PySem.W.mg_of X G oa_BesideRule⟩,
    ⟨O_AboveRule, ⟨oa_AboveRule, ⟨ob_AboveRule, oc_AboveRule, od_AboveRule, oe_AboveRule⟩, of_AboveRule, og_AboveRule, oh_AboveRule, oi_AboveRule, xn, xq, oj_AboveRule⟩, PySem.W.mg_of X G oa_AboveRule⟩,
    ⟨O_TurnRule, ⟨oa_TurnRule, ⟨ob_TurnRule, oc_TurnRule, od_TurnRule, oe_TurnRule⟩, of_TurnRule, og_TurnRule, oh_TurnRule, oi_TurnRule, xn, xq, oj_TurnRule⟩, PySem.W.mg_of X G oa_TurnRule⟩,
    ⟨O_Grammar, ⟨oa_Grammar, ⟨ob_Grammar, oc_Grammar, od_Grammar, oe_Grammar⟩, of_Grammar, og_Grammar, oh_Grammar, oi_Grammar, xn, xq, oj_Grammar⟩, PySem.W.mg_of X G oa_Grammar⟩,
    fun D e => ns_one oa_Rule e ▸ na_Rule_name,
    fun D e => ns_one oa_Rule e ▸ na_Rule_cost,
    ⟨O_Rule, g_Rule_init, _, oa_Rule, ⟨ma_Rule_init, mf_Rule_init, mk_Rule_init⟩, fun_mk ml_Rule_init mc_Rule_init mk_Rule_init, (fun_mk (st := s_Rule_init) ml_Rule_init mc_Rule_init mk_Rule_init).binds fun _ _ _ _ _ _ us hl => match us, hl with | [_, _, _], _ => rfl⟩,
    fun D e => ns_one oa_CellRule e ▸ na_CellRule_sign,
    fun D e => ns_one oa_CellRule e ▸ na_CellRule_name,
    fun D e => ns_one oa_CellRule e ▸ na_CellRule_cost,
    ⟨O_CellRule, g_CellRule_init, _, oa_CellRule, ⟨ma_CellRule_init, mf_CellRule_init, mk_CellRule_init⟩, fun_mk ml_CellRule_init mc_CellRule_init mk_CellRule_init, (fun_mk (st := s_CellRule_init) ml_CellRule_init mc_CellRule_init mk_CellRule_init).binds fun _ _ _ _ _ _ us hl => match us, hl with | [_, _, _, _], _ => rfl⟩,
    ⟨O_CellRule, g_CellRule_renamed, _, oa_CellRule, ⟨ma_CellRule_renamed, mf_CellRule_renamed, mk_CellRule_renamed⟩, fun_mk ml_CellRule_renamed mc_CellRule_renamed mk_CellRule_renamed, (fun_mk (st := s_CellRule_renamed) ml_CellRule_renamed mc_CellRule_renamed mk_CellRule_renamed).binds fun _ _ _ _ _ _ us hl => match us, hl with | [_, _], _ => rfl⟩,
    ⟨O_CellRule, g_CellRule_told, _, oa_CellRule, ⟨ma_CellRule_told, mf_CellRule_told, mk_CellRule_told⟩, fun_mk ml_CellRule_told mc_CellRule_told mk_CellRule_told, (fun_mk (st := s_CellRule_told) ml_CellRule_told mc_CellRule_told mk_CellRule_told).binds fun _ _ _ _ _ _ us hl => match us, hl with | [_], _ => rfl⟩,
    ⟨O_CellRule, g_Rule_parts, _, oa_CellRule, ⟨ma_CellRule_parts, mf_Rule_parts, mk_Rule_parts⟩, fun_mk ml_Rule_parts mc_Rule_parts mk_Rule_parts, (fun_mk (st := s_Rule_parts) ml_Rule_parts mc_Rule_parts mk_Rule_parts).binds fun _ _ _ _ _ _ us hl => match us, hl with | [_], _ => rfl⟩,
    ⟨O_CellRule, g_Rule_begun, _, oa_CellRule, ⟨ma_CellRule_begun, mf_Rule_begun, mk_Rule_begun⟩, fun_mk ml_Rule_begun mc_Rule_begun mk_Rule_begun, (fun_mk (st := s_Rule_begun) ml_Rule_begun mc_Rule_begun mk_Rule_begun).binds fun _ _ _ _ _ _ us hl => match us, hl with | [_], _ => rfl⟩,
    fun D e => ns_one oa_BesideRule e ▸ na_BesideRule_one,
    fun D e => ns_one oa_BesideRule e ▸ na_BesideRule_other,
    fun D e => ns_one oa_BesideRule e ▸ na_BesideRule_name,
    fun D e => ns_one oa_BesideRule e ▸ na_BesideRule_cost,
    ⟨O_BesideRule, g_BesideRule_init, _, oa_BesideRule, ⟨ma_BesideRule_init, mf_BesideRule_init, mk_BesideRule_init⟩, fun_mk ml_BesideRule_init mc_BesideRule_init mk_BesideRule_init, (fun_mk (st := s_BesideRule_init) ml_BesideRule_init mc_BesideRule_init mk_BesideRule_init).binds fun _ _ _ _ _ _ us hl => match us, hl with | [_, _, _, _, _], _ => rfl⟩,
    ⟨O_BesideRule, g_BesideRule_parts, _, oa_BesideRule, ⟨ma_BesideRule_parts, mf_BesideRule_parts, mk_BesideRule_parts⟩, fun_mk ml_BesideRule_parts mc_BesideRule_parts mk_BesideRule_parts, (fun_mk (st := s_BesideRule_parts) ml_BesideRule_parts mc_BesideRule_parts mk_BesideRule_parts).binds fun _ _ _ _ _ _ us hl => match us, hl with | [_], _ => rfl⟩,
    ⟨O_BesideRule, g_BesideRule_renamed, _, oa_BesideRule, ⟨ma_BesideRule_renamed, mf_BesideRule_renamed, mk_BesideRule_renamed⟩, fun_mk ml_BesideRule_renamed mc_BesideRule_renamed mk_BesideRule_renamed, (fun_mk (st := s_BesideRule_renamed) ml_BesideRule_renamed mc_BesideRule_renamed mk_BesideRule_renamed).binds fun _ _ _ _ _ _ us hl => match us, hl with | [_, _], _ => rfl⟩,
    ⟨O_BesideRule, g_BesideRule_told, _, oa_BesideRule, ⟨ma_BesideRule_told, mf_BesideRule_told, mk_BesideRule_told⟩, fun_mk ml_BesideRule_told mc_BesideRule_told mk_BesideRule_told, (fun_mk (st := s_BesideRule_told) ml_BesideRule_told mc_BesideRule_told mk_BesideRule_told).binds fun _ _ _ _ _ _ us hl => match us, hl with | [_], _ => rfl⟩,
    ⟨O_BesideRule, g_Rule_begun, _, oa_BesideRule, ⟨ma_BesideRule_begun, mf_Rule_begun, mk_Rule_begun⟩, fun_mk ml_Rule_begun mc_Rule_begun mk_Rule_begun, (fun_mk (st := s_Rule_begun) ml_Rule_begun mc_Rule_begun mk_Rule_begun).binds fun _ _ _ _ _ _ us hl => match us, hl with | [_], _ => rfl⟩,
    fun D e => ns_one oa_AboveRule e ▸ na_AboveRule_one,
    fun D e => ns_one oa_AboveRule e ▸ na_AboveRule_other,
    fun D e => ns_one oa_AboveRule e ▸ na_AboveRule_name,
    fun D e => ns_one oa_AboveRule e ▸ na_AboveRule_cost,
    ⟨O_AboveRule, g_AboveRule_init, _, oa_AboveRule, ⟨ma_AboveRule_init, mf_AboveRule_init, mk_AboveRule_init⟩, fun_mk ml_AboveRule_init mc_AboveRule_init mk_AboveRule_init, (fun_mk (st := s_AboveRule_init) ml_AboveRule_init mc_AboveRule_init mk_AboveRule_init).binds fun _ _ _ _ _ _ us hl => match us, hl with | [_, _, _, _, _], _ => rfl⟩,
    ⟨O_AboveRule, g_AboveRule_parts, _, oa_AboveRule, ⟨ma_AboveRule_parts, mf_AboveRule_parts, mk_AboveRule_parts⟩, fun_mk ml_AboveRule_parts mc_AboveRule_parts mk_AboveRule_parts, (fun_mk (st := s_AboveRule_parts) ml_AboveRule_parts mc_AboveRule_parts mk_AboveRule_parts).binds fun _ _ _ _ _ _ us hl => match us, hl with | [_], _ => rfl⟩,
    ⟨O_AboveRule, g_AboveRule_renamed, _, oa_AboveRule, ⟨ma_AboveRule_renamed, mf_AboveRule_renamed, mk_AboveRule_renamed⟩, fun_mk ml_AboveRule_renamed mc_AboveRule_renamed mk_AboveRule_renamed, (fun_mk (st := s_AboveRule_renamed) ml_AboveRule_renamed mc_AboveRule_renamed mk_AboveRule_renamed).binds fun _ _ _ _ _ _ us hl => match us, hl with | [_, _], _ => rfl⟩,
    ⟨O_AboveRule, g_AboveRule_told, _, oa_AboveRule, ⟨ma_AboveRule_told, mf_AboveRule_told, mk_AboveRule_told⟩, fun_mk ml_AboveRule_told mc_AboveRule_told mk_AboveRule_told, (fun_mk (st := s_AboveRule_told) ml_AboveRule_told mc_AboveRule_told mk_AboveRule_told).binds fun _ _ _ _ _ _ us hl => match us, hl with | [_], _ => rfl⟩,
    ⟨O_AboveRule, g_Rule_begun, _, oa_AboveRule, ⟨ma_AboveRule_begun, mf_Rule_begun, mk_Rule_begun⟩, fun_mk ml_Rule_begun mc_Rule_begun mk_Rule_begun, (fun_mk (st := s_Rule_begun) ml_Rule_begun mc_Rule_begun mk_Rule_begun).binds fun _ _ _ _ _ _ us hl => match us, hl with | [_], _ => rfl⟩,
    fun D e => ns_one oa_TurnRule e ▸ na_TurnRule_part,
    fun D e => ns_one oa_TurnRule e ▸ na_TurnRule_turning,
    fun D e => ns_one oa_TurnRule e ▸ na_TurnRule_name,
    fun D e => ns_one oa_TurnRule e ▸ na_TurnRule_cost,
    ⟨O_TurnRule, g_TurnRule_init, _, oa_TurnRule, ⟨ma_TurnRule_init, mf_TurnRule_init, mk_TurnRule_init⟩, fun_mk ml_TurnRule_init mc_TurnRule_init mk_TurnRule_init, (fun_mk (st := s_TurnRule_init) ml_TurnRule_init mc_TurnRule_init mk_TurnRule_init).binds fun _ _ _ _ _ _ us hl => match us, hl with | [_, _, _, _, _], _ => rfl⟩,
    ⟨O_TurnRule, g_TurnRule_parts, _, oa_TurnRule, ⟨ma_TurnRule_parts, mf_TurnRule_parts, mk_TurnRule_parts⟩, fun_mk ml_TurnRule_parts mc_TurnRule_parts mk_TurnRule_parts, (fun_mk (st := s_TurnRule_parts) ml_TurnRule_parts mc_TurnRule_parts mk_TurnRule_parts).binds fun _ _ _ _ _ _ us hl => match us, hl with | [_], _ => rfl⟩,
    ⟨O_TurnRule, g_TurnRule_renamed, _, oa_TurnRule, ⟨ma_TurnRule_renamed, mf_TurnRule_renamed, mk_TurnRule_renamed⟩, fun_mk ml_TurnRule_renamed mc_TurnRule_renamed mk_TurnRule_renamed, (fun_mk (st := s_TurnRule_renamed) ml_TurnRule_renamed mc_TurnRule_renamed mk_TurnRule_renamed).binds fun _ _ _ _ _ _ us hl => match us, hl with | [_, _], _ => rfl⟩,
    ⟨O_TurnRule, g_TurnRule_told, _, oa_TurnRule, ⟨ma_TurnRule_told, mf_TurnRule_told, mk_TurnRule_told⟩, fun_mk ml_TurnRule_told mc_TurnRule_told mk_TurnRule_told, (fun_mk (st := s_TurnRule_told) ml_TurnRule_told mc_TurnRule_told mk_TurnRule_told).binds fun _ _ _ _ _ _ us hl => match us, hl with | [_], _ => rfl⟩,
    ⟨O_TurnRule, g_Rule_begun, _, oa_TurnRule, ⟨ma_TurnRule_begun, mf_Rule_begun, mk_Rule_begun⟩, fun_mk ml_Rule_begun mc_Rule_begun mk_Rule_begun, (fun_mk (st := s_Rule_begun) ml_Rule_begun mc_Rule_begun mk_Rule_begun).binds fun _ _ _ _ _ _ us hl => match us, hl with | [_], _ => rfl⟩,
    fun D e => ns_one oa_Grammar e ▸ na_Grammar_signs,
    fun D e => ns_one oa_Grammar e ▸ na_Grammar_start,
    fun D e => ns_one oa_Grammar e ▸ na_Grammar_kept_rules,
    fun D e => ns_one oa_Grammar e ▸ na_Grammar_kept_names,
    ⟨O_Grammar, g_Grammar_init, _, oa_Grammar, ⟨ma_Grammar_init, mf_Grammar_init, mk_Grammar_init⟩, fun_mk ml_Grammar_init mc_Grammar_init mk_Grammar_init, (fun_mk (st := s_Grammar_init) ml_Grammar_init mc_Grammar_init mk_Grammar_init).binds fun _ _ _ _ _ _ us hl => match us, hl with | [_, _, _, _], _ => rfl⟩,
    ⟨O_Grammar, g_Grammar_rules, _, oa_Grammar, ⟨ma_Grammar_rules, mf_Grammar_rules, mk_Grammar_rules⟩, fun_mk ml_Grammar_rules mc_Grammar_rules mk_Grammar_rules, (fun_mk (st := s_Grammar_rules) ml_Grammar_rules mc_Grammar_rules mk_Grammar_rules).binds fun _ _ _ _ _ _ us hl => match us, hl with | [_], _ => rfl⟩,
    ⟨O_Grammar, g_Grammar_many, _, oa_Grammar, ⟨ma_Grammar_many, mf_Grammar_many, mk_Grammar_many⟩, fun_mk ml_Grammar_many mc_Grammar_many mk_Grammar_many, (fun_mk (st := s_Grammar_many) ml_Grammar_many mc_Grammar_many mk_Grammar_many).binds fun _ _ _ _ _ _ us hl => match us, hl with | [_], _ => rfl⟩,
    ⟨O_Grammar, g_Grammar_names, _, oa_Grammar, ⟨ma_Grammar_names, mf_Grammar_names, mk_Grammar_names⟩, fun_mk ml_Grammar_names mc_Grammar_names mk_Grammar_names, (fun_mk (st := s_Grammar_names) ml_Grammar_names mc_Grammar_names mk_Grammar_names).binds fun _ _ _ _ _ _ us hl => match us, hl with | [_], _ => rfl⟩,
    ⟨O_Grammar, g_Grammar_told, _, oa_Grammar, ⟨ma_Grammar_told, mf_Grammar_told, mk_Grammar_told⟩, fun_mk ml_Grammar_told mc_Grammar_told mk_Grammar_told, (fun_mk (st := s_Grammar_told) ml_Grammar_told mc_Grammar_told mk_Grammar_told).binds fun _ _ _ _ _ _ us hl => match us, hl with | [_], _ => rfl⟩,
    CInit.mk oa_Rule ma_Rule_init ia_Rule ib_Rule ic_Rule,
    OSub.mk oa_CellRule oa_CellRule oh_CellRule oc_CellRule ou_CellRule_CellRule (fun _ => rfl),
    OSub.mk oa_BesideRule oa_CellRule oh_CellRule oc_CellRule ou_BesideRule_CellRule (fun e => absurd e ov_BesideRule_CellRule),
    OSub.mk oa_AboveRule oa_CellRule oh_CellRule oc_CellRule ou_AboveRule_CellRule (fun e => absurd e ov_AboveRule_CellRule),
    OSub.mk oa_TurnRule oa_CellRule oh_CellRule oc_CellRule ou_TurnRule_CellRule (fun e => absurd e ov_TurnRule_CellRule),
    OSub.mk oa_Grammar oa_CellRule oh_CellRule oc_CellRule ou_Grammar_CellRule (fun e => absurd e ov_Grammar_CellRule),
    df_of X G a_wall l_wall c_wall k_wall fun _ _ _ _ _ _ us hl => match us, hl with | [_], _ => rfl,
    df_of X G a_beside l_beside c_beside k_beside fun _ _ _ _ _ _ us hl => match us, hl with | [_, _], _ => rfl,
    df_of X G a_above l_above c_above k_above fun _ _ _ _ _ _ us hl => match us, hl with | [_, _], _ => rfl,
    df_of X G a_quarter l_quarter c_quarter k_quarter fun _ _ _ _ _ _ us hl => match us, hl with | [_], _ => rfl,
    df_of X G a_mirrored l_mirrored c_mirrored k_mirrored fun _ _ _ _ _ _ us hl => match us, hl with | [_], _ => rfl,
    df_of X G a_turned l_turned c_turned k_turned fun _ _ _ _ _ _ us hl => match us, hl with | [_, _], _ => rfl,
    df_of X G a_after l_after c_after k_after fun _ _ _ _ _ _ us hl => match us, hl with | [_, _], _ => rfl,
    df_of X G a_back l_back c_back k_back fun _ _ _ _ _ _ us hl => match us, hl with | [_], _ => rfl,
    df_of X G a_is_name l_is_name c_is_name k_is_name fun _ _ _ _ _ _ us hl => match us, hl with | [_], _ => rfl,
    df_of X G a_asked_name l_asked_name c_asked_name k_asked_name fun _ _ _ _ _ _ us hl => match us, hl with | [_], _ => rfl,
    df_of X G a_turned_pair l_turned_pair c_turned_pair k_turned_pair fun _ _ _ _ _ _ us hl => match us, hl with | [_, _, _, _], _ => rfl,
    df_of X G a_are_signs l_are_signs c_are_signs k_are_signs fun _ _ _ _ _ _ us hl => match us, hl with | [_], _ => rfl,
    df_of X G a_names_met l_names_met c_names_met k_names_met fun _ _ _ _ _ _ us hl => match us, hl with | [_, _], _ => rfl,
    df_of X G a_asked_rules l_asked_rules c_asked_rules k_asked_rules fun _ _ _ _ _ _ us hl => match us, hl with | [_, _], _ => rfl,
    df_of X G a_new_names l_new_names c_new_names k_new_names fun _ _ _ _ _ _ us hl => match us, hl with | [_, _], _ => rfl,
    df_of X G a_joint_rules l_joint_rules c_joint_rules k_joint_rules fun _ _ _ _ _ _ us hl => match us, hl with | [_, _, _], _ => rfl,
    df_of X G a_joined l_joined c_joined k_joined fun _ _ _ _ _ _ us hl => match us, hl with | [_, _, _], _ => rfl,
    df_of X G a_law_mix l_law_mix c_law_mix k_law_mix fun _ _ _ _ _ _ us hl => match us, hl with | [_, _], _ => rfl,
    df_of X G a_law_cell l_law_cell c_law_cell k_law_cell fun _ _ _ _ _ _ us hl => match us, hl with | [_, _], _ => rfl,
    df_of X G a_law_pool l_law_pool c_law_pool k_law_pool fun _ _ _ _ _ _ us hl => match us, hl with | [_, _], _ => rfl,
    df_of X G a_law_signs l_law_signs c_law_signs k_law_signs fun _ _ _ _ _ _ us hl => match us, hl with | [_], _ => rfl,
    df_of X G a_law_rows l_law_rows c_law_rows k_law_rows fun _ _ _ _ _ _ us hl => match us, hl with | [_, _, _], _ => rfl,
    df_of X G a_law_rule l_law_rule c_law_rule k_law_rule fun _ _ _ _ _ _ us hl => match us, hl with | [_], _ => rfl,
    df_of X G a_law_parts l_law_parts c_law_parts k_law_parts fun _ _ _ _ _ _ us hl => match us, hl with | [_], _ => rfl,
    df_of X G a_law_met l_law_met c_law_met k_law_met fun _ _ _ _ _ _ us hl => match us, hl with | [_, _], _ => rfl,
    df_of X G a_law_one l_law_one c_law_one k_law_one fun _ _ _ _ _ _ us hl => match us, hl with | [_, _, _], _ => rfl,
    df_of X G a_law_way l_law_way c_law_way k_law_way fun _ _ _ _ _ _ us hl => match us, hl with | [_], _ => rfl,
    df_of X G a_law_asked l_law_asked c_law_asked k_law_asked fun _ _ _ _ _ _ us hl => match us, hl with | [_, _, _], _ => rfl⟩
theorem all_mk {l : PySem.W.OpenLaw} {w : World} {K : PySem.W.Frag} {h : Heap} {mg : Str → Option Value} {fa : Addr} (X : K.In h) (G : h.Ns mainGlobals mg) (hfa : mg "law" = some (.ref fa))
    (zb_ValueError : PySem.W.nsIn K mainGlobals "ValueError" = some none)
    (zb_all : PySem.W.nsIn K mainGlobals "all" = some none)
    (zb_enumerate : PySem.W.nsIn K mainGlobals "enumerate" = some none)
    (zb_int : PySem.W.nsIn K mainGlobals "int" = some none)
    (zb_isinstance : PySem.W.nsIn K mainGlobals "isinstance" = some none)
    (zb_len : PySem.W.nsIn K mainGlobals "len" = some none)
    (zb_list : PySem.W.nsIn K mainGlobals "list" = some none)
    (zb_range : PySem.W.nsIn K mainGlobals "range" = some none)
    (zb_reversed : PySem.W.nsIn K mainGlobals "reversed" = some none)
    (zb_set : PySem.W.nsIn K mainGlobals "set" = some none)
    (zb_str : PySem.W.nsIn K mainGlobals "str" = some none)
    (zb_zip : PySem.W.nsIn K mainGlobals "zip" = some none)
    {t_MOST : Tok} (zc_MOST : PySem.W.nsIn K mainGlobals "MOST" = some (some (.int 6 t_MOST)))
    {t_MIRROR : Tok} (zc_MIRROR : PySem.W.nsIn K mainGlobals "MIRROR" = some (some (.int 4 t_MIRROR)))
    {t_CAPITALS : Tok} (zc_CAPITALS : PySem.W.nsIn K mainGlobals "CAPITALS" = some (some (.str (Str.ofString "ABCDEFGHIJKLMNOPQRSTUVWXYZ") t_CAPITALS)))
    {t_SMALL : Tok} (zc_SMALL : PySem.W.nsIn K mainGlobals "SMALL" = some (some (.str (Str.ofString "abcdefghijklmnopqrstuvwxyz") t_SMALL)))
    {t_MOST_LETTERS : Tok} (zc_MOST_LETTERS : PySem.W.nsIn K mainGlobals "MOST_LETTERS" = some (some (.int 4 t_MOST_LETTERS)))
    {t_MOST_COST : Tok} (zc_MOST_COST : PySem.W.nsIn K mainGlobals "MOST_COST" = some (some (.int 9 t_MOST_COST)))
    {t_MOST_SIGNS : Tok} (zc_MOST_SIGNS : PySem.W.nsIn K mainGlobals "MOST_SIGNS" = some (some (.int 4 t_MOST_SIGNS)))
    {t_MOST_RULES : Tok} (zc_MOST_RULES : PySem.W.nsIn K mainGlobals "MOST_RULES" = some (some (.int 24 t_MOST_RULES)))
    {t_MOST_NAMES : Tok} (zc_MOST_NAMES : PySem.W.nsIn K mainGlobals "MOST_NAMES" = some (some (.int 8 t_MOST_NAMES)))
    {t_JOINT : Tok} (zc_JOINT : PySem.W.nsIn K mainGlobals "JOINT" = some (some (.str (Str.ofString "J") t_JOINT)))
    {t_FIRST : Tok} (zc_FIRST : PySem.W.nsIn K mainGlobals "FIRST" = some (some (.str (Str.ofString "F") t_FIRST)))
    {t_SECOND : Tok} (zc_SECOND : PySem.W.nsIn K mainGlobals "SECOND" = some (some (.str (Str.ofString "S") t_SECOND)))
    (xn : PySem.W.specialIn K (.builtin "object.__class__") "__get__" = some (some (.builtin "getset_descriptor.__get__")))
    (xq : PySem.W.takesIn K (.builtin "object.__class__") = some true)
    {C_QuiltError : Addr}
    (xa_QuiltError : PySem.W.nsIn K mainGlobals "QuiltError" = some (some (.ref C_QuiltError)))
    (xk_QuiltError : PySem.W.keepIn K (.ref C_QuiltError) = true)
    (xt_QuiltError : PySem.W.typeIn K (.ref C_QuiltError) = some (.type "type"))
    (xg_QuiltError : PySem.W.findIn K (.ref C_QuiltError) "__getattribute__" = some (some (.builtin "BaseException.__getattribute__")))
    (xh_QuiltError : PySem.W.findIn K (.ref C_QuiltError) "__getattr__" = some none)
    (xs_QuiltError : PySem.W.subIn K (.ref C_QuiltError) (.type "BaseException") = some true)
    (xd_QuiltError : PySem.W.hasDictIn K C_QuiltError = true)
    (xc_QuiltError : PySem.W.findIn K (.ref C_QuiltError) "__class__" = some (some (.builtin "object.__class__")))
    (xm_QuiltError : PySem.W.mroIn K C_QuiltError (.type "object") = some true)
    {C_NoFit : Addr}
    (xa_NoFit : PySem.W.nsIn K mainGlobals "NoFit" = some (some (.ref C_NoFit)))
    (xk_NoFit : PySem.W.keepIn K (.ref C_NoFit) = true)
    (xt_NoFit : PySem.W.typeIn K (.ref C_NoFit) = some (.type "type"))
    (xg_NoFit : PySem.W.findIn K (.ref C_NoFit) "__getattribute__" = some (some (.builtin "BaseException.__getattribute__")))
    (xh_NoFit : PySem.W.findIn K (.ref C_NoFit) "__getattr__" = some none)
    (xs_NoFit : PySem.W.subIn K (.ref C_NoFit) (.type "BaseException") = some true)
    (xd_NoFit : PySem.W.hasDictIn K C_NoFit = true)
    (xc_NoFit : PySem.W.findIn K (.ref C_NoFit) "__class__" = some (some (.builtin "object.__class__")))
    (xm_NoFit : PySem.W.mroIn K C_NoFit (.type "object") = some true)
    {C_NoRule : Addr}
    (xa_NoRule : PySem.W.nsIn K mainGlobals "NoRule" = some (some (.ref C_NoRule)))
    (xk_NoRule : PySem.W.keepIn K (.ref C_NoRule) = true)
    (xt_NoRule : PySem.W.typeIn K (.ref C_NoRule) = some (.type "type"))
    (xg_NoRule : PySem.W.findIn K (.ref C_NoRule) "__getattribute__" = some (some (.builtin "BaseException.__getattribute__")))
    (xh_NoRule : PySem.W.findIn K (.ref C_NoRule) "__getattr__" = some none)
    (xs_NoRule : PySem.W.subIn K (.ref C_NoRule) (.type "BaseException") = some true)
    (xd_NoRule : PySem.W.hasDictIn K C_NoRule = true)
    (xc_NoRule : PySem.W.findIn K (.ref C_NoRule) "__class__" = some (some (.builtin "object.__class__")))
    (xm_NoRule : PySem.W.mroIn K C_NoRule (.type "object") = some true)
    {C_NoGrammar : Addr}
    (xa_NoGrammar : PySem.W.nsIn K mainGlobals "NoGrammar" = some (some (.ref C_NoGrammar)))
    (xk_NoGrammar : PySem.W.keepIn K (.ref C_NoGrammar) = true)
    (xt_NoGrammar : PySem.W.typeIn K (.ref C_NoGrammar) = some (.type "type"))
    (xg_NoGrammar : PySem.W.findIn K (.ref C_NoGrammar) "__getattribute__" = some (some (.builtin "BaseException.__getattribute__")))
    (xh_NoGrammar : PySem.W.findIn K (.ref C_NoGrammar) "__getattr__" = some none)
    (xs_NoGrammar : PySem.W.subIn K (.ref C_NoGrammar) (.type "BaseException") = some true)
    (xd_NoGrammar : PySem.W.hasDictIn K C_NoGrammar = true)
    (xc_NoGrammar : PySem.W.findIn K (.ref C_NoGrammar) "__class__" = some (some (.builtin "object.__class__")))
    (xm_NoGrammar : PySem.W.mroIn K C_NoGrammar (.type "object") = some true)
    {C_TooMany : Addr}
    (xa_TooMany : PySem.W.nsIn K mainGlobals "TooMany" = some (some (.ref C_TooMany)))
    (xk_TooMany : PySem.W.keepIn K (.ref C_TooMany) = true)
    (xt_TooMany : PySem.W.typeIn K (.ref C_TooMany) = some (.type "type"))
    (xg_TooMany : PySem.W.findIn K (.ref C_TooMany) "__getattribute__" = some (some (.builtin "BaseException.__getattribute__")))
    (xh_TooMany : PySem.W.findIn K (.ref C_TooMany) "__getattr__" = some none)
    (xs_TooMany : PySem.W.subIn K (.ref C_TooMany) (.type "BaseException") = some true)
    (xd_TooMany : PySem.W.hasDictIn K C_TooMany = true)
    (xc_TooMany : PySem.W.findIn K (.ref C_TooMany) "__class__" = some (some (.builtin "object.__class__")))
    (xm_TooMany : PySem.W.mroIn K C_TooMany (.type "object") = some true)
    (xp_NoRule : PySem.W.excIn K C_NoRule [.type "ValueError", .type "Exception", .type "BaseException", .type "object"] "ValueError.__new__" = true)
    (xp_NoFit : PySem.W.excIn K C_NoFit [.type "ValueError", .type "Exception", .type "BaseException", .type "object"] "ValueError.__new__" = true)
    {nm_NoGrammar qn_NoGrammar : Str} {NN_NoGrammar fI_NoGrammar : Addr} {bs_NoGrammar bm_NoGrammar : List Value} {sn_NoGrammar : List Str} {su_NoGrammar : List Value} {ab_NoGrammar : Bool} {col_NoGrammar : _} {dd_NoGrammar : Option Addr} {k0_NoGrammar k1_NoGrammar k2_NoGrammar k3_NoGrammar k5_NoGrammar : Option Value}
    (xl_NoGrammar : K.lookup C_NoGrammar = some (excClassObj nm_NoGrammar qn_NoGrammar C_NoGrammar NN_NoGrammar bs_NoGrammar bm_NoGrammar true sn_NoGrammar su_NoGrammar ab_NoGrammar col_NoGrammar dd_NoGrammar k0_NoGrammar k1_NoGrammar k2_NoGrammar k3_NoGrammar k5_NoGrammar "ValueError.__new__"))
    (xv_NoGrammar : PySem.HandSPX.refsVE bm_NoGrammar = true)
    (xw_NoGrammar : PySem.W.findIn K (.ref C_NoGrammar) "__setattr__" = some (some (.builtin "object.__setattr__")))
    (xf_NoGrammar : PySem.W.findIn K (.ref C_NoGrammar) "why" = some none)
    (xi_NoGrammar : PySem.W.findIn K (.ref C_NoGrammar) "__init__" = some (some (.ref fI_NoGrammar)))
    (xj_NoGrammar : PySem.W.typeIn K (.ref fI_NoGrammar) = some (.type "function"))
    {od_iNoGrammar an_iNoGrammar : Option Addr} {sl_iNoGrammar : Array (Option Value)} {oc_iNoGrammar kV_iNoGrammar dc_iNoGrammar pm_iNoGrammar cd_iNoGrammar ct_iNoGrammar : Value}
    (xo_NoGrammar : K.lookup fI_NoGrammar = some ⟨oc_iNoGrammar, od_iNoGrammar, .func (PySem.W.fnOf "__init__" "NoGrammar.__init__" (defArgs s_NoGrammar_init) (defBody s_NoGrammar_init) (defScope s_NoGrammar_init) .none kV_iNoGrammar dc_iNoGrammar pm_iNoGrammar an_iNoGrammar cd_iNoGrammar ct_iNoGrammar), sl_iNoGrammar⟩)
    (xu_NoGrammar : PySem.W.codeIn K cd_iNoGrammar "NoGrammar.__init__" = true)
    (xz_NoGrammar : PySem.W.keepIn K (.ref fI_NoGrammar) = true)
    (xp_TooMany : PySem.W.excIn K C_TooMany [.type "ValueError", .type "Exception", .type "BaseException", .type "object"] "ValueError.__new__" = true)
    (qs_QuiltError : PySem.W.specialIn K (.ref C_QuiltError) "__getattribute__" = some (some (.builtin "type.__getattribute__")))
    (qr_QuiltError : PySem.W.readsIn K C_QuiltError (.type "type") = true)
    (qf_QuiltError : PySem.W.findCls K (.ref C_QuiltError) (.type "type") "__init__" = some (.val (.builtin "ValueError.__init__")))
    (y_NoRule_QuiltError : PySem.W.subIn K (.ref C_NoRule) (.ref C_QuiltError) = some true)
    (y_NoRule_NoRule : PySem.W.subIn K (.ref C_NoRule) (.ref C_NoRule) = some true)
    (y_NoRule_TooMany : PySem.W.subIn K (.ref C_NoRule) (.ref C_TooMany) = some false)
    (d_NoRule_TooMany : ¬ C_NoRule = C_TooMany)
    (y_NoRule_NoGrammar : PySem.W.subIn K (.ref C_NoRule) (.ref C_NoGrammar) = some false)
    (d_NoRule_NoGrammar : ¬ C_NoRule = C_NoGrammar)
    (y_NoRule_ValueError : PySem.W.subIn K (.ref C_NoRule) (.type "ValueError") = some true)
    (y_NoFit_QuiltError : PySem.W.subIn K (.ref C_NoFit) (.ref C_QuiltError) = some true)
    (y_NoFit_NoRule : PySem.W.subIn K (.ref C_NoFit) (.ref C_NoRule) = some false)
    (d_NoFit_NoRule : ¬ C_NoFit = C_NoRule)
    (y_NoFit_TooMany : PySem.W.subIn K (.ref C_NoFit) (.ref C_TooMany) = some false)
    (d_NoFit_TooMany : ¬ C_NoFit = C_TooMany)
    (y_NoFit_NoGrammar : PySem.W.subIn K (.ref C_NoFit) (.ref C_NoGrammar) = some false)
    (d_NoFit_NoGrammar : ¬ C_NoFit = C_NoGrammar)
    (y_NoFit_ValueError : PySem.W.subIn K (.ref C_NoFit) (.type "ValueError") = some true)
    (y_NoGrammar_QuiltError : PySem.W.subIn K (.ref C_NoGrammar) (.ref C_QuiltError) = some true)
    (y_NoGrammar_NoRule : PySem.W.subIn K (.ref C_NoGrammar) (.ref C_NoRule) = some false)
    (d_NoGrammar_NoRule : ¬ C_NoGrammar = C_NoRule)
    (y_NoGrammar_TooMany : PySem.W.subIn K (.ref C_NoGrammar) (.ref C_TooMany) = some false)
    (d_NoGrammar_TooMany : ¬ C_NoGrammar = C_TooMany)
    (y_NoGrammar_NoGrammar : PySem.W.subIn K (.ref C_NoGrammar) (.ref C_NoGrammar) = some true)
    (y_NoGrammar_ValueError : PySem.W.subIn K (.ref C_NoGrammar) (.type "ValueError") = some true)
    (y_TooMany_QuiltError : PySem.W.subIn K (.ref C_TooMany) (.ref C_QuiltError) = some true)
    (y_TooMany_NoRule : PySem.W.subIn K (.ref C_TooMany) (.ref C_NoRule) = some false)
    (d_TooMany_NoRule : ¬ C_TooMany = C_NoRule)
    (y_TooMany_TooMany : PySem.W.subIn K (.ref C_TooMany) (.ref C_TooMany) = some true)
    (y_TooMany_NoGrammar : PySem.W.subIn K (.ref C_TooMany) (.ref C_NoGrammar) = some false)
    (d_TooMany_NoGrammar : ¬ C_TooMany = C_NoGrammar)
    (y_TooMany_ValueError : PySem.W.subIn K (.ref C_TooMany) (.type "ValueError") = some true)
    {O_Rule : Addr}
    (oa_Rule : PySem.W.nsIn K mainGlobals "Rule" = some (some (.ref O_Rule)))
    (ob_Rule : PySem.W.plainGet K O_Rule Str.empty = true)
    (oc_Rule : PySem.W.hasDictIn K O_Rule = true)
    (od_Rule : PySem.W.plainOver K O_Rule = true)
    (oe_Rule : PySem.W.findIn K (.ref O_Rule) "__setattr__" = some (some (.builtin "object.__setattr__")))
    (of_Rule : PySem.W.makesIn K O_Rule = true)
    (og_Rule : PySem.W.keepIn K (.ref O_Rule) = true)
    (oh_Rule : PySem.W.typeIn K (.ref O_Rule) = some (.type "type"))
    (oi_Rule : PySem.W.findIn K (.ref O_Rule) "__class__" = some (some (.builtin "object.__class__")))
    (oj_Rule : PySem.W.mroIn K O_Rule (.type "object") = some true)
    {O_CellRule : Addr}
    (oa_CellRule : PySem.W.nsIn K mainGlobals "CellRule" = some (some (.ref O_CellRule)))
    (ob_CellRule : PySem.W.plainGet K O_CellRule Str.empty = true)
    (oc_CellRule : PySem.W.hasDictIn K O_CellRule = true)
    (od_CellRule : PySem.W.plainOver K O_CellRule = true)
    (oe_CellRule : PySem.W.findIn K (.ref O_CellRule) "__setattr__" = some (some (.builtin "object.__setattr__")))
    (of_CellRule : PySem.W.makesIn K O_CellRule = true)
    (og_CellRule : PySem.W.keepIn K (.ref O_CellRule) = true)
    (oh_CellRule : PySem.W.typeIn K (.ref O_CellRule) = some (.type "type"))
    (oi_CellRule : PySem.W.findIn K (.ref O_CellRule) "__class__" = some (some (.builtin "object.__class__")))
    (oj_CellRule : PySem.W.mroIn K O_CellRule (.type "object") = some true)
    {O_BesideRule : Addr}
    (oa_BesideRule : PySem.W.nsIn K mainGlobals "BesideRule" = some (some (.ref O_BesideRule)))
    (ob_BesideRule : PySem.W.plainGet K O_BesideRule Str.empty = true)
    (oc_BesideRule : PySem.W.hasDictIn K O_BesideRule = true)
    (od_BesideRule : PySem.W.plainOver K O_BesideRule = true)
    (oe_BesideRule : PySem.W.findIn K (.ref O_BesideRule) "__setattr__" = some (some (.builtin "object.__setattr__")))
    (of_BesideRule : PySem.W.makesIn K O_BesideRule = true)
    (og_BesideRule : PySem.W.keepIn K (.ref O_BesideRule) = true)
    (oh_BesideRule : PySem.W.typeIn K (.ref O_BesideRule) = some (.type "type"))
    (oi_BesideRule : PySem.W.findIn K (.ref O_BesideRule) "__class__" = some (some (.builtin "object.__class__")))
    (oj_BesideRule : PySem.W.mroIn K O_BesideRule (.type "object") = some true)
    {O_AboveRule : Addr}
    (oa_AboveRule : PySem.W.nsIn K mainGlobals "AboveRule" = some (some (.ref O_AboveRule)))
    (ob_AboveRule : PySem.W.plainGet K O_AboveRule Str.empty = true)
    (oc_AboveRule : PySem.W.hasDictIn K O_AboveRule = true)
    (od_AboveRule : PySem.W.plainOver K O_AboveRule = true)
    (oe_AboveRule : PySem.W.findIn K (.ref O_AboveRule) "__setattr__" = some (some (.builtin "object.__setattr__")))
    (of_AboveRule : PySem.W.makesIn K O_AboveRule = true)
    (og_AboveRule : PySem.W.keepIn K (.ref O_AboveRule) = true)
    (oh_AboveRule : PySem.W.typeIn K (.ref O_AboveRule) = some (.type "type"))
    (oi_AboveRule : PySem.W.findIn K (.ref O_AboveRule) "__class__" = some (some (.builtin "object.__class__")))
    (oj_AboveRule : PySem.W.mroIn K O_AboveRule (.type "object") = some true)
    {O_TurnRule : Addr}
    (oa_TurnRule : PySem.W.nsIn K mainGlobals "TurnRule" = some (some (.ref O_TurnRule)))
    (ob_TurnRule : PySem.W.plainGet K O_TurnRule Str.empty = true)
    (oc_TurnRule : PySem.W.hasDictIn K O_TurnRule = true)
    (od_TurnRule : PySem.W.plainOver K O_TurnRule = true)
    (oe_TurnRule : PySem.W.findIn K (.ref O_TurnRule) "__setattr__" = some (some (.builtin "object.__setattr__")))
    (of_TurnRule : PySem.W.makesIn K O_TurnRule = true)
    (og_TurnRule : PySem.W.keepIn K (.ref O_TurnRule) = true)
    (oh_TurnRule : PySem.W.typeIn K (.ref O_TurnRule) = some (.type "type"))
    (oi_TurnRule : PySem.W.findIn K (.ref O_TurnRule) "__class__" = some (some (.builtin "object.__class__")))
    (oj_TurnRule : PySem.W.mroIn K O_TurnRule (.type "object") = some true)
    {O_Grammar : Addr}
    (oa_Grammar : PySem.W.nsIn K mainGlobals "Grammar" = some (some (.ref O_Grammar)))
    (ob_Grammar : PySem.W.plainGet K O_Grammar Str.empty = true)
    (oc_Grammar : PySem.W.hasDictIn K O_Grammar = true)
    (od_Grammar : PySem.W.plainOver K O_Grammar = true)
    (oe_Grammar : PySem.W.findIn K (.ref O_Grammar) "__setattr__" = some (some (.builtin "object.__setattr__")))
    (of_Grammar : PySem.W.makesIn K O_Grammar = true)
    (og_Grammar : PySem.W.keepIn K (.ref O_Grammar) = true)
    (oh_Grammar : PySem.W.typeIn K (.ref O_Grammar) = some (.type "type"))
    (oi_Grammar : PySem.W.findIn K (.ref O_Grammar) "__class__" = some (some (.builtin "object.__class__")))
    (oj_Grammar : PySem.W.mroIn K O_Grammar (.type "object") = some true)
    (na_Rule_name : PySem.W.findIn K (.ref O_Rule) "name" = some none)
    (na_Rule_cost : PySem.W.findIn K (.ref O_Rule) "cost" = some none)
    {g_Rule_init : Addr} {god_Rule_init gan_Rule_init : Option Addr} {gsl_Rule_init : Array (Option Value)} {goc_Rule_init gkV_Rule_init gdc_Rule_init gpm_Rule_init gcd_Rule_init gct_Rule_init : Value}
    (ma_Rule_init : PySem.W.findIn K (.ref O_Rule) "__init__" = some (some (.ref g_Rule_init)))
    (ml_Rule_init : K.lookup g_Rule_init = some ⟨goc_Rule_init, god_Rule_init, .func (PySem.W.fnOf "__init__" "Rule.__init__" (defArgs s_Rule_init) (defBody s_Rule_init) (defScope s_Rule_init) .none gkV_Rule_init gdc_Rule_init gpm_Rule_init gan_Rule_init gcd_Rule_init gct_Rule_init), gsl_Rule_init⟩)
    (mc_Rule_init : PySem.W.codeIn K gcd_Rule_init "Rule.__init__" = true)
    (mk_Rule_init : PySem.W.keepIn K (.ref g_Rule_init) = true)
    (mf_Rule_init : PySem.W.isFn K (.ref g_Rule_init) = true)
    (na_CellRule_sign : PySem.W.findIn K (.ref O_CellRule) "sign" = some none)
    (na_CellRule_name : PySem.W.findIn K (.ref O_CellRule) "name" = some none)
    (na_CellRule_cost : PySem.W.findIn K (.ref O_CellRule) "cost" = some none)
    {g_CellRule_init : Addr} {god_CellRule_init gan_CellRule_init : Option Addr} {gsl_CellRule_init : Array (Option Value)} {goc_CellRule_init gkV_CellRule_init gdc_CellRule_init gpm_CellRule_init gcd_CellRule_init gct_CellRule_init : Value}
    (ma_CellRule_init : PySem.W.findIn K (.ref O_CellRule) "__init__" = some (some (.ref g_CellRule_init)))
    (ml_CellRule_init : K.lookup g_CellRule_init = some ⟨goc_CellRule_init, god_CellRule_init, .func (PySem.W.fnOf "__init__" "CellRule.__init__" (defArgs s_CellRule_init) (defBody s_CellRule_init) (defScope s_CellRule_init) .none gkV_CellRule_init gdc_CellRule_init gpm_CellRule_init gan_CellRule_init gcd_CellRule_init gct_CellRule_init), gsl_CellRule_init⟩)
    (mc_CellRule_init : PySem.W.codeIn K gcd_CellRule_init "CellRule.__init__" = true)
    (mk_CellRule_init : PySem.W.keepIn K (.ref g_CellRule_init) = true)
    (mf_CellRule_init : PySem.W.isFn K (.ref g_CellRule_init) = true)
    {g_CellRule_renamed : Addr} {god_CellRule_renamed gan_CellRule_renamed : Option Addr} {gsl_CellRule_renamed : Array (Option Value)} {goc_CellRule_renamed gkV_CellRule_renamed gdc_CellRule_renamed gpm_CellRule_renamed gcd_CellRule_renamed gct_CellRule_renamed : Value}
    (ma_CellRule_renamed : PySem.W.findIn K (.ref O_CellRule) "renamed" = some (some (.ref g_CellRule_renamed)))
    (ml_CellRule_renamed : K.lookup g_CellRule_renamed = some ⟨goc_CellRule_renamed, god_CellRule_renamed, .func (PySem.W.fnOf "renamed" "CellRule.renamed" (defArgs s_CellRule_renamed) (defBody s_CellRule_renamed) (defScope s_CellRule_renamed) .none gkV_CellRule_renamed gdc_CellRule_renamed gpm_CellRule_renamed gan_CellRule_renamed gcd_CellRule_renamed gct_CellRule_renamed), gsl_CellRule_renamed⟩)
    (mc_CellRule_renamed : PySem.W.codeIn K gcd_CellRule_renamed "CellRule.renamed" = true)
    (mk_CellRule_renamed : PySem.W.keepIn K (.ref g_CellRule_renamed) = true)
    (mf_CellRule_renamed : PySem.W.isFn K (.ref g_CellRule_renamed) = true)
    {g_CellRule_told : Addr} {god_CellRule_told gan_CellRule_told : Option Addr} {gsl_CellRule_told : Array (Option Value)} {goc_CellRule_told gkV_CellRule_told gdc_CellRule_told gpm_CellRule_told gcd_CellRule_told gct_CellRule_told : Value}
    (ma_CellRule_told : PySem.W.findIn K (.ref O_CellRule) "told" = some (some (.ref g_CellRule_told)))
    (ml_CellRule_told : K.lookup g_CellRule_told = some ⟨goc_CellRule_told, god_CellRule_told, .func (PySem.W.fnOf "told" "CellRule.told" (defArgs s_CellRule_told) (defBody s_CellRule_told) (defScope s_CellRule_told) .none gkV_CellRule_told gdc_CellRule_told gpm_CellRule_told gan_CellRule_told gcd_CellRule_told gct_CellRule_told), gsl_CellRule_told⟩)
    (mc_CellRule_told : PySem.W.codeIn K gcd_CellRule_told "CellRule.told" = true)
    (mk_CellRule_told : PySem.W.keepIn K (.ref g_CellRule_told) = true)
    (mf_CellRule_told : PySem.W.isFn K (.ref g_CellRule_told) = true)
    {g_Rule_parts : Addr} {god_Rule_parts gan_Rule_parts : Option Addr} {gsl_Rule_parts : Array (Option Value)} {goc_Rule_parts gkV_Rule_parts gdc_Rule_parts gpm_Rule_parts gcd_Rule_parts gct_Rule_parts : Value}
    (ma_CellRule_parts : PySem.W.findIn K (.ref O_CellRule) "parts" = some (some (.ref g_Rule_parts)))
    (ml_Rule_parts : K.lookup g_Rule_parts = some ⟨goc_Rule_parts, god_Rule_parts, .func (PySem.W.fnOf "parts" "Rule.parts" (defArgs s_Rule_parts) (defBody s_Rule_parts) (defScope s_Rule_parts) .none gkV_Rule_parts gdc_Rule_parts gpm_Rule_parts gan_Rule_parts gcd_Rule_parts gct_Rule_parts), gsl_Rule_parts⟩)
    (mc_Rule_parts : PySem.W.codeIn K gcd_Rule_parts "Rule.parts" = true)
    (mk_Rule_parts : PySem.W.keepIn K (.ref g_Rule_parts) = true)
    (mf_Rule_parts : PySem.W.isFn K (.ref g_Rule_parts) = true)
    {g_Rule_begun : Addr} {god_Rule_begun gan_Rule_begun : Option Addr} {gsl_Rule_begun : Array (Option Value)} {goc_Rule_begun gkV_Rule_begun gdc_Rule_begun gpm_Rule_begun gcd_Rule_begun gct_Rule_begun : Value}
    (ma_CellRule_begun : PySem.W.findIn K (.ref O_CellRule) "begun" = some (some (.ref g_Rule_begun)))
    (ml_Rule_begun : K.lookup g_Rule_begun = some ⟨goc_Rule_begun, god_Rule_begun, .func (PySem.W.fnOf "begun" "Rule.begun" (defArgs s_Rule_begun) (defBody s_Rule_begun) (defScope s_Rule_begun) .none gkV_Rule_begun gdc_Rule_begun gpm_Rule_begun gan_Rule_begun gcd_Rule_begun gct_Rule_begun), gsl_Rule_begun⟩)
    (mc_Rule_begun : PySem.W.codeIn K gcd_Rule_begun "Rule.begun" = true)
    (mk_Rule_begun : PySem.W.keepIn K (.ref g_Rule_begun) = true)
    (mf_Rule_begun : PySem.W.isFn K (.ref g_Rule_begun) = true)
    (na_BesideRule_one : PySem.W.findIn K (.ref O_BesideRule) "one" = some none)
    (na_BesideRule_other : PySem.W.findIn K (.ref O_BesideRule) "other" = some none)
    (na_BesideRule_name : PySem.W.findIn K (.ref O_BesideRule) "name" = some none)
    (na_BesideRule_cost : PySem.W.findIn K (.ref O_BesideRule) "cost" = some none)
    {g_BesideRule_init : Addr} {god_BesideRule_init gan_BesideRule_init : Option Addr} {gsl_BesideRule_init : Array (Option Value)} {goc_BesideRule_init gkV_BesideRule_init gdc_BesideRule_init gpm_BesideRule_init gcd_BesideRule_init gct_BesideRule_init : Value}
    (ma_BesideRule_init : PySem.W.findIn K (.ref O_BesideRule) "__init__" = some (some (.ref g_BesideRule_init)))
    (ml_BesideRule_init : K.lookup g_BesideRule_init = some ⟨goc_BesideRule_init, god_BesideRule_init, .func (PySem.W.fnOf "__init__" "BesideRule.__init__" (defArgs s_BesideRule_init) (defBody s_BesideRule_init) (defScope s_BesideRule_init) .none gkV_BesideRule_init gdc_BesideRule_init gpm_BesideRule_init gan_BesideRule_init gcd_BesideRule_init gct_BesideRule_init), gsl_BesideRule_init⟩)
    (mc_BesideRule_init : PySem.W.codeIn K gcd_BesideRule_init "BesideRule.__init__" = true)
    (mk_BesideRule_init : PySem.W.keepIn K (.ref g_BesideRule_init) = true)
    (mf_BesideRule_init : PySem.W.isFn K (.ref g_BesideRule_init) = true)
    {g_BesideRule_parts : Addr} {god_BesideRule_parts gan_BesideRule_parts : Option Addr} {gsl_BesideRule_parts : Array (Option Value)} {goc_BesideRule_parts gkV_BesideRule_parts gdc_BesideRule_parts gpm_BesideRule_parts gcd_BesideRule_parts gct_BesideRule_parts : Value}
    (ma_BesideRule_parts : PySem.W.findIn K (.ref O_BesideRule) "parts" = some (some (.ref g_BesideRule_parts)))
    (ml_BesideRule_parts : K.lookup g_BesideRule_parts = some ⟨goc_BesideRule_parts, god_BesideRule_parts, .func (PySem.W.fnOf "parts" "BesideRule.parts" (defArgs s_BesideRule_parts) (defBody s_BesideRule_parts) (defScope s_BesideRule_parts) .none gkV_BesideRule_parts gdc_BesideRule_parts gpm_BesideRule_parts gan_BesideRule_parts gcd_BesideRule_parts gct_BesideRule_parts), gsl_BesideRule_parts⟩)
    (mc_BesideRule_parts : PySem.W.codeIn K gcd_BesideRule_parts "BesideRule.parts" = true)
    (mk_BesideRule_parts : PySem.W.keepIn K (.ref g_BesideRule_parts) = true)
    (mf_BesideRule_parts : PySem.W.isFn K (.ref g_BesideRule_parts) = true)
    {g_BesideRule_renamed : Addr} {god_BesideRule_renamed gan_BesideRule_renamed : Option Addr} {gsl_BesideRule_renamed : Array (Option Value)} {goc_BesideRule_renamed gkV_BesideRule_renamed gdc_BesideRule_renamed gpm_BesideRule_renamed gcd_BesideRule_renamed gct_BesideRule_renamed : Value}
    (ma_BesideRule_renamed : PySem.W.findIn K (.ref O_BesideRule) "renamed" = some (some (.ref g_BesideRule_renamed)))
    (ml_BesideRule_renamed : K.lookup g_BesideRule_renamed = some ⟨goc_BesideRule_renamed, god_BesideRule_renamed, .func (PySem.W.fnOf "renamed" "BesideRule.renamed" (defArgs s_BesideRule_renamed) (defBody s_BesideRule_renamed) (defScope s_BesideRule_renamed) .none gkV_BesideRule_renamed gdc_BesideRule_renamed gpm_BesideRule_renamed gan_BesideRule_renamed gcd_BesideRule_renamed gct_BesideRule_renamed), gsl_BesideRule_renamed⟩)
    (mc_BesideRule_renamed : PySem.W.codeIn K gcd_BesideRule_renamed "BesideRule.renamed" = true)
    (mk_BesideRule_renamed : PySem.W.keepIn K (.ref g_BesideRule_renamed) = true)
    (mf_BesideRule_renamed : PySem.W.isFn K (.ref g_BesideRule_renamed) = true)
    {g_BesideRule_told : Addr} {god_BesideRule_told gan_BesideRule_told : Option Addr} {gsl_BesideRule_told : Array (Option Value)} {goc_BesideRule_told gkV_BesideRule_told gdc_BesideRule_told gpm_BesideRule_told gcd_BesideRule_told gct_BesideRule_told : Value}
    (ma_BesideRule_told : PySem.W.findIn K (.ref O_BesideRule) "told" = some (some (.ref g_BesideRule_told)))
    (ml_BesideRule_told : K.lookup g_BesideRule_told = some ⟨goc_BesideRule_told, god_BesideRule_told, .func (PySem.W.fnOf "told" "BesideRule.told" (defArgs s_BesideRule_told) (defBody s_BesideRule_told) (defScope s_BesideRule_told) .none gkV_BesideRule_told gdc_BesideRule_told gpm_BesideRule_told gan_BesideRule_told gcd_BesideRule_told gct_BesideRule_told), gsl_BesideRule_told⟩)
    (mc_BesideRule_told : PySem.W.codeIn K gcd_BesideRule_told "BesideRule.told" = true)
    (mk_BesideRule_told : PySem.W.keepIn K (.ref g_BesideRule_told) = true)
    (mf_BesideRule_told : PySem.W.isFn K (.ref g_BesideRule_told) = true)
    (ma_BesideRule_begun : PySem.W.findIn K (.ref O_BesideRule) "begun" = some (some (.ref g_Rule_begun)))
    (na_AboveRule_one : PySem.W.findIn K (.ref O_AboveRule) "one" = some none)
    (na_AboveRule_other : PySem.W.findIn K (.ref O_AboveRule) "other" = some none)
    (na_AboveRule_name : PySem.W.findIn K (.ref O_AboveRule) "name" = some none)
    (na_AboveRule_cost : PySem.W.findIn K (.ref O_AboveRule) "cost" = some none)
    {g_AboveRule_init : Addr} {god_AboveRule_init gan_AboveRule_init : Option Addr} {gsl_AboveRule_init : Array (Option Value)} {goc_AboveRule_init gkV_AboveRule_init gdc_AboveRule_init gpm_AboveRule_init gcd_AboveRule_init gct_AboveRule_init : Value}
    (ma_AboveRule_init : PySem.W.findIn K (.ref O_AboveRule) "__init__" = some (some (.ref g_AboveRule_init)))
    (ml_AboveRule_init : K.lookup g_AboveRule_init = some ⟨goc_AboveRule_init, god_AboveRule_init, .func (PySem.W.fnOf "__init__" "AboveRule.__init__" (defArgs s_AboveRule_init) (defBody s_AboveRule_init) (defScope s_AboveRule_init) .none gkV_AboveRule_init gdc_AboveRule_init gpm_AboveRule_init gan_AboveRule_init gcd_AboveRule_init gct_AboveRule_init), gsl_AboveRule_init⟩)
    (mc_AboveRule_init : PySem.W.codeIn K gcd_AboveRule_init "AboveRule.__init__" = true)
    (mk_AboveRule_init : PySem.W.keepIn K (.ref g_AboveRule_init) = true)
    (mf_AboveRule_init : PySem.W.isFn K (.ref g_AboveRule_init) = true)
    {g_AboveRule_parts : Addr} {god_AboveRule_parts gan_AboveRule_parts : Option Addr} {gsl_AboveRule_parts : Array (Option Value)} {goc_AboveRule_parts gkV_AboveRule_parts gdc_AboveRule_parts gpm_AboveRule_parts gcd_AboveRule_parts gct_AboveRule_parts : Value}
    (ma_AboveRule_parts : PySem.W.findIn K (.ref O_AboveRule) "parts" = some (some (.ref g_AboveRule_parts)))
    (ml_AboveRule_parts : K.lookup g_AboveRule_parts = some ⟨goc_AboveRule_parts, god_AboveRule_parts, .func (PySem.W.fnOf "parts" "AboveRule.parts" (defArgs s_AboveRule_parts) (defBody s_AboveRule_parts) (defScope s_AboveRule_parts) .none gkV_AboveRule_parts gdc_AboveRule_parts gpm_AboveRule_parts gan_AboveRule_parts gcd_AboveRule_parts gct_AboveRule_parts), gsl_AboveRule_parts⟩)
    (mc_AboveRule_parts : PySem.W.codeIn K gcd_AboveRule_parts "AboveRule.parts" = true)
    (mk_AboveRule_parts : PySem.W.keepIn K (.ref g_AboveRule_parts) = true)
    (mf_AboveRule_parts : PySem.W.isFn K (.ref g_AboveRule_parts) = true)
    {g_AboveRule_renamed : Addr} {god_AboveRule_renamed gan_AboveRule_renamed : Option Addr} {gsl_AboveRule_renamed : Array (Option Value)} {goc_AboveRule_renamed gkV_AboveRule_renamed gdc_AboveRule_renamed gpm_AboveRule_renamed gcd_AboveRule_renamed gct_AboveRule_renamed : Value}
    (ma_AboveRule_renamed : PySem.W.findIn K (.ref O_AboveRule) "renamed" = some (some (.ref g_AboveRule_renamed)))
    (ml_AboveRule_renamed : K.lookup g_AboveRule_renamed = some ⟨goc_AboveRule_renamed, god_AboveRule_renamed, .func (PySem.W.fnOf "renamed" "AboveRule.renamed" (defArgs s_AboveRule_renamed) (defBody s_AboveRule_renamed) (defScope s_AboveRule_renamed) .none gkV_AboveRule_renamed gdc_AboveRule_renamed gpm_AboveRule_renamed gan_AboveRule_renamed gcd_AboveRule_renamed gct_AboveRule_renamed), gsl_AboveRule_renamed⟩)
    (mc_AboveRule_renamed : PySem.W.codeIn K gcd_AboveRule_renamed "AboveRule.renamed" = true)
    (mk_AboveRule_renamed : PySem.W.keepIn K (.ref g_AboveRule_renamed) = true)
    (mf_AboveRule_renamed : PySem.W.isFn K (.ref g_AboveRule_renamed) = true)
    {g_AboveRule_told : Addr} {god_AboveRule_told gan_AboveRule_told : Option Addr} {gsl_AboveRule_told : Array (Option Value)} {goc_AboveRule_told gkV_AboveRule_told gdc_AboveRule_told gpm_AboveRule_told gcd_AboveRule_told gct_AboveRule_told : Value}
    (ma_AboveRule_told : PySem.W.findIn K (.ref O_AboveRule) "told" = some (some (.ref g_AboveRule_told)))
    (ml_AboveRule_told : K.lookup g_AboveRule_told = some ⟨goc_AboveRule_told, god_AboveRule_told, .func (PySem.W.fnOf "told" "AboveRule.told" (defArgs s_AboveRule_told) (defBody s_AboveRule_told) (defScope s_AboveRule_told) .none gkV_AboveRule_told gdc_AboveRule_told gpm_AboveRule_told gan_AboveRule_told gcd_AboveRule_told gct_AboveRule_told), gsl_AboveRule_told⟩)
    (mc_AboveRule_told : PySem.W.codeIn K gcd_AboveRule_told "AboveRule.told" = true)
    (mk_AboveRule_told : PySem.W.keepIn K (.ref g_AboveRule_told) = true)
    (mf_AboveRule_told : PySem.W.isFn K (.ref g_AboveRule_told) = true)
    (ma_AboveRule_begun : PySem.W.findIn K (.ref O_AboveRule) "begun" = some (some (.ref g_Rule_begun)))
    (na_TurnRule_part : PySem.W.findIn K (.ref O_TurnRule) "part" = some none)
    (na_TurnRule_turning : PySem.W.findIn K (.ref O_TurnRule) "turning" = some none)
    (na_TurnRule_name : PySem.W.findIn K (.ref O_TurnRule) "name" = some none)
    (na_TurnRule_cost : PySem.W.findIn K (.ref O_TurnRule) "cost" = some none)
    {g_TurnRule_init : Addr} {god_TurnRule_init gan_TurnRule_init : Option Addr} {gsl_TurnRule_init : Array (Option Value)} {goc_TurnRule_init gkV_TurnRule_init gdc_TurnRule_init gpm_TurnRule_init gcd_TurnRule_init gct_TurnRule_init : Value}
    (ma_TurnRule_init : PySem.W.findIn K (.ref O_TurnRule) "__init__" = some (some (.ref g_TurnRule_init)))
    (ml_TurnRule_init : K.lookup g_TurnRule_init = some ⟨goc_TurnRule_init, god_TurnRule_init, .func (PySem.W.fnOf "__init__" "TurnRule.__init__" (defArgs s_TurnRule_init) (defBody s_TurnRule_init) (defScope s_TurnRule_init) .none gkV_TurnRule_init gdc_TurnRule_init gpm_TurnRule_init gan_TurnRule_init gcd_TurnRule_init gct_TurnRule_init), gsl_TurnRule_init⟩)
    (mc_TurnRule_init : PySem.W.codeIn K gcd_TurnRule_init "TurnRule.__init__" = true)
    (mk_TurnRule_init : PySem.W.keepIn K (.ref g_TurnRule_init) = true)
    (mf_TurnRule_init : PySem.W.isFn K (.ref g_TurnRule_init) = true)
    {g_TurnRule_parts : Addr} {god_TurnRule_parts gan_TurnRule_parts : Option Addr} {gsl_TurnRule_parts : Array (Option Value)} {goc_TurnRule_parts gkV_TurnRule_parts gdc_TurnRule_parts gpm_TurnRule_parts gcd_TurnRule_parts gct_TurnRule_parts : Value}
    (ma_TurnRule_parts : PySem.W.findIn K (.ref O_TurnRule) "parts" = some (some (.ref g_TurnRule_parts)))
    (ml_TurnRule_parts : K.lookup g_TurnRule_parts = some ⟨goc_TurnRule_parts, god_TurnRule_parts, .func (PySem.W.fnOf "parts" "TurnRule.parts" (defArgs s_TurnRule_parts) (defBody s_TurnRule_parts) (defScope s_TurnRule_parts) .none gkV_TurnRule_parts gdc_TurnRule_parts gpm_TurnRule_parts gan_TurnRule_parts gcd_TurnRule_parts gct_TurnRule_parts), gsl_TurnRule_parts⟩)
    (mc_TurnRule_parts : PySem.W.codeIn K gcd_TurnRule_parts "TurnRule.parts" = true)
    (mk_TurnRule_parts : PySem.W.keepIn K (.ref g_TurnRule_parts) = true)
    (mf_TurnRule_parts : PySem.W.isFn K (.ref g_TurnRule_parts) = true)
    {g_TurnRule_renamed : Addr} {god_TurnRule_renamed gan_TurnRule_renamed : Option Addr} {gsl_TurnRule_renamed : Array (Option Value)} {goc_TurnRule_renamed gkV_TurnRule_renamed gdc_TurnRule_renamed gpm_TurnRule_renamed gcd_TurnRule_renamed gct_TurnRule_renamed : Value}
    (ma_TurnRule_renamed : PySem.W.findIn K (.ref O_TurnRule) "renamed" = some (some (.ref g_TurnRule_renamed)))
    (ml_TurnRule_renamed : K.lookup g_TurnRule_renamed = some ⟨goc_TurnRule_renamed, god_TurnRule_renamed, .func (PySem.W.fnOf "renamed" "TurnRule.renamed" (defArgs s_TurnRule_renamed) (defBody s_TurnRule_renamed) (defScope s_TurnRule_renamed) .none gkV_TurnRule_renamed gdc_TurnRule_renamed gpm_TurnRule_renamed gan_TurnRule_renamed gcd_TurnRule_renamed gct_TurnRule_renamed), gsl_TurnRule_renamed⟩)
    (mc_TurnRule_renamed : PySem.W.codeIn K gcd_TurnRule_renamed "TurnRule.renamed" = true)
    (mk_TurnRule_renamed : PySem.W.keepIn K (.ref g_TurnRule_renamed) = true)
    (mf_TurnRule_renamed : PySem.W.isFn K (.ref g_TurnRule_renamed) = true)
    {g_TurnRule_told : Addr} {god_TurnRule_told gan_TurnRule_told : Option Addr} {gsl_TurnRule_told : Array (Option Value)} {goc_TurnRule_told gkV_TurnRule_told gdc_TurnRule_told gpm_TurnRule_told gcd_TurnRule_told gct_TurnRule_told : Value}
    (ma_TurnRule_told : PySem.W.findIn K (.ref O_TurnRule) "told" = some (some (.ref g_TurnRule_told)))
    (ml_TurnRule_told : K.lookup g_TurnRule_told = some ⟨goc_TurnRule_told, god_TurnRule_told, .func (PySem.W.fnOf "told" "TurnRule.told" (defArgs s_TurnRule_told) (defBody s_TurnRule_told) (defScope s_TurnRule_told) .none gkV_TurnRule_told gdc_TurnRule_told gpm_TurnRule_told gan_TurnRule_told gcd_TurnRule_told gct_TurnRule_told), gsl_TurnRule_told⟩)
    (mc_TurnRule_told : PySem.W.codeIn K gcd_TurnRule_told "TurnRule.told" = true)
    (mk_TurnRule_told : PySem.W.keepIn K (.ref g_TurnRule_told) = true)
    (mf_TurnRule_told : PySem.W.isFn K (.ref g_TurnRule_told) = true)
    (ma_TurnRule_begun : PySem.W.findIn K (.ref O_TurnRule) "begun" = some (some (.ref g_Rule_begun)))
    (na_Grammar_signs : PySem.W.findIn K (.ref O_Grammar) "signs" = some none)
    (na_Grammar_start : PySem.W.findIn K (.ref O_Grammar) "start" = some none)
    (na_Grammar_kept_rules : PySem.W.findIn K (.ref O_Grammar) "kept_rules" = some none)
    (na_Grammar_kept_names : PySem.W.findIn K (.ref O_Grammar) "kept_names" = some none)
    {g_Grammar_init : Addr} {god_Grammar_init gan_Grammar_init : Option Addr} {gsl_Grammar_init : Array (Option Value)} {goc_Grammar_init gkV_Grammar_init gdc_Grammar_init gpm_Grammar_init gcd_Grammar_init gct_Grammar_init : Value}
    (ma_Grammar_init : PySem.W.findIn K (.ref O_Grammar) "__init__" = some (some (.ref g_Grammar_init)))
    (ml_Grammar_init : K.lookup g_Grammar_init = some ⟨goc_Grammar_init, god_Grammar_init, .func (PySem.W.fnOf "__init__" "Grammar.__init__" (defArgs s_Grammar_init) (defBody s_Grammar_init) (defScope s_Grammar_init) .none gkV_Grammar_init gdc_Grammar_init gpm_Grammar_init gan_Grammar_init gcd_Grammar_init gct_Grammar_init), gsl_Grammar_init⟩)
    (mc_Grammar_init : PySem.W.codeIn K gcd_Grammar_init "Grammar.__init__" = true)
    (mk_Grammar_init : PySem.W.keepIn K (.ref g_Grammar_init) = true)
    (mf_Grammar_init : PySem.W.isFn K (.ref g_Grammar_init) = true)
    {g_Grammar_rules : Addr} {god_Grammar_rules gan_Grammar_rules : Option Addr} {gsl_Grammar_rules : Array (Option Value)} {goc_Grammar_rules gkV_Grammar_rules gdc_Grammar_rules gpm_Grammar_rules gcd_Grammar_rules gct_Grammar_rules : Value}
    (ma_Grammar_rules : PySem.W.findIn K (.ref O_Grammar) "rules" = some (some (.ref g_Grammar_rules)))
    (ml_Grammar_rules : K.lookup g_Grammar_rules = some ⟨goc_Grammar_rules, god_Grammar_rules, .func (PySem.W.fnOf "rules" "Grammar.rules" (defArgs s_Grammar_rules) (defBody s_Grammar_rules) (defScope s_Grammar_rules) .none gkV_Grammar_rules gdc_Grammar_rules gpm_Grammar_rules gan_Grammar_rules gcd_Grammar_rules gct_Grammar_rules), gsl_Grammar_rules⟩)
    (mc_Grammar_rules : PySem.W.codeIn K gcd_Grammar_rules "Grammar.rules" = true)
    (mk_Grammar_rules : PySem.W.keepIn K (.ref g_Grammar_rules) = true)
    (mf_Grammar_rules : PySem.W.isFn K (.ref g_Grammar_rules) = true)
    {g_Grammar_many : Addr} {god_Grammar_many gan_Grammar_many : Option Addr} {gsl_Grammar_many : Array (Option Value)} {goc_Grammar_many gkV_Grammar_many gdc_Grammar_many gpm_Grammar_many gcd_Grammar_many gct_Grammar_many : Value}
    (ma_Grammar_many : PySem.W.findIn K (.ref O_Grammar) "many" = some (some (.ref g_Grammar_many)))
    (ml_Grammar_many : K.lookup g_Grammar_many = some ⟨goc_Grammar_many, god_Grammar_many, .func (PySem.W.fnOf "many" "Grammar.many" (defArgs s_Grammar_many) (defBody s_Grammar_many) (defScope s_Grammar_many) .none gkV_Grammar_many gdc_Grammar_many gpm_Grammar_many gan_Grammar_many gcd_Grammar_many gct_Grammar_many), gsl_Grammar_many⟩)
    (mc_Grammar_many : PySem.W.codeIn K gcd_Grammar_many "Grammar.many" = true)
    (mk_Grammar_many : PySem.W.keepIn K (.ref g_Grammar_many) = true)
    (mf_Grammar_many : PySem.W.isFn K (.ref g_Grammar_many) = true)
    {g_Grammar_names : Addr} {god_Grammar_names gan_Grammar_names : Option Addr} {gsl_Grammar_names : Array (Option Value)} {goc_Grammar_names gkV_Grammar_names gdc_Grammar_names gpm_Grammar_names gcd_Grammar_names gct_Grammar_names : Value}
    (ma_Grammar_names : PySem.W.findIn K (.ref O_Grammar) "names" = some (some (.ref g_Grammar_names)))
    (ml_Grammar_names : K.lookup g_Grammar_names = some ⟨goc_Grammar_names, god_Grammar_names, .func (PySem.W.fnOf "names" "Grammar.names" (defArgs s_Grammar_names) (defBody s_Grammar_names) (defScope s_Grammar_names) .none gkV_Grammar_names gdc_Grammar_names gpm_Grammar_names gan_Grammar_names gcd_Grammar_names gct_Grammar_names), gsl_Grammar_names⟩)
    (mc_Grammar_names : PySem.W.codeIn K gcd_Grammar_names "Grammar.names" = true)
    (mk_Grammar_names : PySem.W.keepIn K (.ref g_Grammar_names) = true)
    (mf_Grammar_names : PySem.W.isFn K (.ref g_Grammar_names) = true)
    {g_Grammar_told : Addr} {god_Grammar_told gan_Grammar_told : Option Addr} {gsl_Grammar_told : Array (Option Value)} {goc_Grammar_told gkV_Grammar_told gdc_Grammar_told gpm_Grammar_told gcd_Grammar_told gct_Grammar_told : Value}
    (ma_Grammar_told : PySem.W.findIn K (.ref O_Grammar) "told" = some (some (.ref g_Grammar_told)))
    (ml_Grammar_told : K.lookup g_Grammar_told = some ⟨goc_Grammar_told, god_Grammar_told, .func (PySem.W.fnOf "told" "Grammar.told" (defArgs s_Grammar_told) (defBody s_Grammar_told) (defScope s_Grammar_told) .none gkV_Grammar_told gdc_Grammar_told gpm_Grammar_told gan_Grammar_told gcd_Grammar_told gct_Grammar_told), gsl_Grammar_told⟩)
    (mc_Grammar_told : PySem.W.codeIn K gcd_Grammar_told "Grammar.told" = true)
    (mk_Grammar_told : PySem.W.keepIn K (.ref g_Grammar_told) = true)
    (mf_Grammar_told : PySem.W.isFn K (.ref g_Grammar_told) = true)
    (ia_Rule : PySem.W.specialIn K (.ref O_Rule) "__getattribute__" = some (some (.builtin "type.__getattribute__")))
    (ib_Rule : PySem.W.readsIn K O_Rule (.type "type") = true)
    (ic_Rule : PySem.W.findCls K (.ref O_Rule) (.type "type") "__init__" = some (.val (.ref g_Rule_init)))
    (ou_CellRule_CellRule : PySem.W.subIn K (.ref O_CellRule) (.ref O_CellRule) = some true)
    (ou_BesideRule_CellRule : PySem.W.subIn K (.ref O_BesideRule) (.ref O_CellRule) = some false)
    (ov_BesideRule_CellRule : ¬ O_BesideRule = O_CellRule)
    (ou_AboveRule_CellRule : PySem.W.subIn K (.ref O_AboveRule) (.ref O_CellRule) = some false)
    (ov_AboveRule_CellRule : ¬ O_AboveRule = O_CellRule)
    (ou_TurnRule_CellRule : PySem.W.subIn K (.ref O_TurnRule) (.ref O_CellRule) = some false)
    (ov_TurnRule_CellRule : ¬ O_TurnRule = O_CellRule)
    (ou_Grammar_CellRule : PySem.W.subIn K (.ref O_Grammar) (.ref O_CellRule) = some false)
    (ov_Grammar_CellRule : ¬ O_Grammar = O_CellRule)
    {f_wall : Addr} {od_wall an_wall : Option Addr} {sl_wall : Array (Option Value)} {oc_wall kV_wall dc_wall pm_wall cd_wall ct_wall : Value} (a_wall : PySem.W.nsIn K mainGlobals "_wall" = some (some (.ref f_wall))) (l_wall : K.lookup f_wall = some ⟨oc_wall, od_wall, .func (PySem.W.fnOf "_wall" "_wall" (defArgs s_wall) (defBody s_wall) (defScope s_wall) .none kV_wall dc_wall pm_wall an_wall cd_wall ct_wall), sl_wall⟩) (c_wall : PySem.W.codeIn K cd_wall "_wall" = true) (k_wall : PySem.W.keepIn K (.ref f_wall) = true)
    {f_beside : Addr} {od_beside an_beside : Option Addr} {sl_beside : Array (Option Value)} {oc_beside kV_beside dc_beside pm_beside cd_beside ct_beside : Value} (a_beside : PySem.W.nsIn K mainGlobals "beside" = some (some (.ref f_beside))) (l_beside : K.lookup f_beside = some ⟨oc_beside, od_beside, .func (PySem.W.fnOf "beside" "beside" (defArgs s_beside) (defBody s_beside) (defScope s_beside) .none kV_beside dc_beside pm_beside an_beside cd_beside ct_beside), sl_beside⟩) (c_beside : PySem.W.codeIn K cd_beside "beside" = true) (k_beside : PySem.W.keepIn K (.ref f_beside) = true)
    {f_above : Addr} {od_above an_above : Option Addr} {sl_above : Array (Option Value)} {oc_above kV_above dc_above pm_above cd_above ct_above : Value} (a_above : PySem.W.nsIn K mainGlobals "above" = some (some (.ref f_above))) (l_above : K.lookup f_above = some ⟨oc_above, od_above, .func (PySem.W.fnOf "above" "above" (defArgs s_above) (defBody s_above) (defScope s_above) .none kV_above dc_above pm_above an_above cd_above ct_above), sl_above⟩) (c_above : PySem.W.codeIn K cd_above "above" = true) (k_above : PySem.W.keepIn K (.ref f_above) = true)
    {f_quarter : Addr} {od_quarter an_quarter : Option Addr} {sl_quarter : Array (Option Value)} {oc_quarter kV_quarter dc_quarter pm_quarter cd_quarter ct_quarter : Value} (a_quarter : PySem.W.nsIn K mainGlobals "quarter" = some (some (.ref f_quarter))) (l_quarter : K.lookup f_quarter = some ⟨oc_quarter, od_quarter, .func (PySem.W.fnOf "quarter" "quarter" (defArgs s_quarter) (defBody s_quarter) (defScope s_quarter) .none kV_quarter dc_quarter pm_quarter an_quarter cd_quarter ct_quarter), sl_quarter⟩) (c_quarter : PySem.W.codeIn K cd_quarter "quarter" = true) (k_quarter : PySem.W.keepIn K (.ref f_quarter) = true)
    {f_mirrored : Addr} {od_mirrored an_mirrored : Option Addr} {sl_mirrored : Array (Option Value)} {oc_mirrored kV_mirrored dc_mirrored pm_mirrored cd_mirrored ct_mirrored : Value} (a_mirrored : PySem.W.nsIn K mainGlobals "mirrored" = some (some (.ref f_mirrored))) (l_mirrored : K.lookup f_mirrored = some ⟨oc_mirrored, od_mirrored, .func (PySem.W.fnOf "mirrored" "mirrored" (defArgs s_mirrored) (defBody s_mirrored) (defScope s_mirrored) .none kV_mirrored dc_mirrored pm_mirrored an_mirrored cd_mirrored ct_mirrored), sl_mirrored⟩) (c_mirrored : PySem.W.codeIn K cd_mirrored "mirrored" = true) (k_mirrored : PySem.W.keepIn K (.ref f_mirrored) = true)
    {f_turned : Addr} {od_turned an_turned : Option Addr} {sl_turned : Array (Option Value)} {oc_turned kV_turned dc_turned pm_turned cd_turned ct_turned : Value} (a_turned : PySem.W.nsIn K mainGlobals "turned" = some (some (.ref f_turned))) (l_turned : K.lookup f_turned = some ⟨oc_turned, od_turned, .func (PySem.W.fnOf "turned" "turned" (defArgs s_turned) (defBody s_turned) (defScope s_turned) .none kV_turned dc_turned pm_turned an_turned cd_turned ct_turned), sl_turned⟩) (c_turned : PySem.W.codeIn K cd_turned "turned" = true) (k_turned : PySem.W.keepIn K (.ref f_turned) = true)
    {f_after : Addr} {od_after an_after : Option Addr} {sl_after : Array (Option Value)} {oc_after kV_after dc_after pm_after cd_after ct_after : Value} (a_after : PySem.W.nsIn K mainGlobals "after" = some (some (.ref f_after))) (l_after : K.lookup f_after = some ⟨oc_after, od_after, .func (PySem.W.fnOf "after" "after" (defArgs s_after) (defBody s_after) (defScope s_after) .none kV_after dc_after pm_after an_after cd_after ct_after), sl_after⟩) (c_after : PySem.W.codeIn K cd_after "after" = true) (k_after : PySem.W.keepIn K (.ref f_after) = true)
    {f_back : Addr} {od_back an_back : Option Addr} {sl_back : Array (Option Value)} {oc_back kV_back dc_back pm_back cd_back ct_back : Value} (a_back : PySem.W.nsIn K mainGlobals "back" = some (some (.ref f_back))) (l_back : K.lookup f_back = some ⟨oc_back, od_back, .func (PySem.W.fnOf "back" "back" (defArgs s_back) (defBody s_back) (defScope s_back) .none kV_back dc_back pm_back an_back cd_back ct_back), sl_back⟩) (c_back : PySem.W.codeIn K cd_back "back" = true) (k_back : PySem.W.keepIn K (.ref f_back) = true)
    {f_is_name : Addr} {od_is_name an_is_name : Option Addr} {sl_is_name : Array (Option Value)} {oc_is_name kV_is_name dc_is_name pm_is_name cd_is_name ct_is_name : Value} (a_is_name : PySem.W.nsIn K mainGlobals "is_name" = some (some (.ref f_is_name))) (l_is_name : K.lookup f_is_name = some ⟨oc_is_name, od_is_name, .func (PySem.W.fnOf "is_name" "is_name" (defArgs s_is_name) (defBody s_is_name) (defScope s_is_name) .none kV_is_name dc_is_name pm_is_name an_is_name cd_is_name ct_is_name), sl_is_name⟩) (c_is_name : PySem.W.codeIn K cd_is_name "is_name" = true) (k_is_name : PySem.W.keepIn K (.ref f_is_name) = true)
    {f_asked_name : Addr} {od_asked_name an_asked_name : Option Addr} {sl_asked_name : Array (Option Value)} {oc_asked_name kV_asked_name dc_asked_name pm_asked_name cd_asked_name ct_asked_name : Value} (a_asked_name : PySem.W.nsIn K mainGlobals "asked_name" = some (some (.ref f_asked_name))) (l_asked_name : K.lookup f_asked_name = some ⟨oc_asked_name, od_asked_name, .func (PySem.W.fnOf "asked_name" "asked_name" (defArgs s_asked_name) (defBody s_asked_name) (defScope s_asked_name) .none kV_asked_name dc_asked_name pm_asked_name an_asked_name cd_asked_name ct_asked_name), sl_asked_name⟩) (c_asked_name : PySem.W.codeIn K cd_asked_name "asked_name" = true) (k_asked_name : PySem.W.keepIn K (.ref f_asked_name) = true)
    {f_turned_pair : Addr} {od_turned_pair an_turned_pair : Option Addr} {sl_turned_pair : Array (Option Value)} {oc_turned_pair kV_turned_pair dc_turned_pair pm_turned_pair cd_turned_pair ct_turned_pair : Value} (a_turned_pair : PySem.W.nsIn K mainGlobals "turned_pair" = some (some (.ref f_turned_pair))) (l_turned_pair : K.lookup f_turned_pair = some ⟨oc_turned_pair, od_turned_pair, .func (PySem.W.fnOf "turned_pair" "turned_pair" (defArgs s_turned_pair) (defBody s_turned_pair) (defScope s_turned_pair) .none kV_turned_pair dc_turned_pair pm_turned_pair an_turned_pair cd_turned_pair ct_turned_pair), sl_turned_pair⟩) (c_turned_pair : PySem.W.codeIn K cd_turned_pair "turned_pair" = true) (k_turned_pair : PySem.W.keepIn K (.ref f_turned_pair) = true)
    {f_are_signs : Addr} {od_are_signs an_are_signs : Option Addr} {sl_are_signs : Array (Option Value)} {oc_are_signs kV_are_signs dc_are_signs pm_are_signs cd_are_signs ct_are_signs : Value} (a_are_signs : PySem.W.nsIn K mainGlobals "are_signs" = some (some (.ref f_are_signs))) (l_are_signs : K.lookup f_are_signs = some ⟨oc_are_signs, od_are_signs, .func (PySem.W.fnOf "are_signs" "are_signs" (defArgs s_are_signs) (defBody s_are_signs) (defScope s_are_signs) .none kV_are_signs dc_are_signs pm_are_signs an_are_signs cd_are_signs ct_are_signs), sl_are_signs⟩) (c_are_signs : PySem.W.codeIn K cd_are_signs "are_signs" = true) (k_are_signs : PySem.W.keepIn K (.ref f_are_signs) = true)
    {f_names_met : Addr} {od_names_met an_names_met : Option Addr} {sl_names_met : Array (Option Value)} {oc_names_met kV_names_met dc_names_met pm_names_met cd_names_met ct_names_met : Value} (a_names_met : PySem.W.nsIn K mainGlobals "names_met" = some (some (.ref f_names_met))) (l_names_met : K.lookup f_names_met = some ⟨oc_names_met, od_names_met, .func (PySem.W.fnOf "names_met" "names_met" (defArgs s_names_met) (defBody s_names_met) (defScope s_names_met) .none kV_names_met dc_names_met pm_names_met an_names_met cd_names_met ct_names_met), sl_names_met⟩) (c_names_met : PySem.W.codeIn K cd_names_met "names_met" = true) (k_names_met : PySem.W.keepIn K (.ref f_names_met) = true)
    {f_asked_rules : Addr} {od_asked_rules an_asked_rules : Option Addr} {sl_asked_rules : Array (Option Value)} {oc_asked_rules kV_asked_rules dc_asked_rules pm_asked_rules cd_asked_rules ct_asked_rules : Value} (a_asked_rules : PySem.W.nsIn K mainGlobals "asked_rules" = some (some (.ref f_asked_rules))) (l_asked_rules : K.lookup f_asked_rules = some ⟨oc_asked_rules, od_asked_rules, .func (PySem.W.fnOf "asked_rules" "asked_rules" (defArgs s_asked_rules) (defBody s_asked_rules) (defScope s_asked_rules) .none kV_asked_rules dc_asked_rules pm_asked_rules an_asked_rules cd_asked_rules ct_asked_rules), sl_asked_rules⟩) (c_asked_rules : PySem.W.codeIn K cd_asked_rules "asked_rules" = true) (k_asked_rules : PySem.W.keepIn K (.ref f_asked_rules) = true)
    {f_new_names : Addr} {od_new_names an_new_names : Option Addr} {sl_new_names : Array (Option Value)} {oc_new_names kV_new_names dc_new_names pm_new_names cd_new_names ct_new_names : Value} (a_new_names : PySem.W.nsIn K mainGlobals "new_names" = some (some (.ref f_new_names))) (l_new_names : K.lookup f_new_names = some ⟨oc_new_names, od_new_names, .func (PySem.W.fnOf "new_names" "new_names" (defArgs s_new_names) (defBody s_new_names) (defScope s_new_names) .none kV_new_names dc_new_names pm_new_names an_new_names cd_new_names ct_new_names), sl_new_names⟩) (c_new_names : PySem.W.codeIn K cd_new_names "new_names" = true) (k_new_names : PySem.W.keepIn K (.ref f_new_names) = true)
    {f_joint_rules : Addr} {od_joint_rules an_joint_rules : Option Addr} {sl_joint_rules : Array (Option Value)} {oc_joint_rules kV_joint_rules dc_joint_rules pm_joint_rules cd_joint_rules ct_joint_rules : Value} (a_joint_rules : PySem.W.nsIn K mainGlobals "joint_rules" = some (some (.ref f_joint_rules))) (l_joint_rules : K.lookup f_joint_rules = some ⟨oc_joint_rules, od_joint_rules, .func (PySem.W.fnOf "joint_rules" "joint_rules" (defArgs s_joint_rules) (defBody s_joint_rules) (defScope s_joint_rules) .none kV_joint_rules dc_joint_rules pm_joint_rules an_joint_rules cd_joint_rules ct_joint_rules), sl_joint_rules⟩) (c_joint_rules : PySem.W.codeIn K cd_joint_rules "joint_rules" = true) (k_joint_rules : PySem.W.keepIn K (.ref f_joint_rules) = true)
    {f_joined : Addr} {od_joined an_joined : Option Addr} {sl_joined : Array (Option Value)} {oc_joined kV_joined dc_joined pm_joined cd_joined ct_joined : Value} (a_joined : PySem.W.nsIn K mainGlobals "joined" = some (some (.ref f_joined))) (l_joined : K.lookup f_joined = some ⟨oc_joined, od_joined, .func (PySem.W.fnOf "joined" "joined" (defArgs s_joined) (defBody s_joined) (defScope s_joined) .none kV_joined dc_joined pm_joined an_joined cd_joined ct_joined), sl_joined⟩) (c_joined : PySem.W.codeIn K cd_joined "joined" = true) (k_joined : PySem.W.keepIn K (.ref f_joined) = true)
    {f_law_mix : Addr} {od_law_mix an_law_mix : Option Addr} {sl_law_mix : Array (Option Value)} {oc_law_mix kV_law_mix dc_law_mix pm_law_mix cd_law_mix ct_law_mix : Value} (a_law_mix : PySem.W.nsIn K mainGlobals "_law_mix" = some (some (.ref f_law_mix))) (l_law_mix : K.lookup f_law_mix = some ⟨oc_law_mix, od_law_mix, .func (PySem.W.fnOf "_law_mix" "_law_mix" (defArgs s_law_mix) (defBody s_law_mix) (defScope s_law_mix) .none kV_law_mix dc_law_mix pm_law_mix an_law_mix cd_law_mix ct_law_mix), sl_law_mix⟩) (c_law_mix : PySem.W.codeIn K cd_law_mix "_law_mix" = true) (k_law_mix : PySem.W.keepIn K (.ref f_law_mix) = true)
    {f_law_cell : Addr} {od_law_cell an_law_cell : Option Addr} {sl_law_cell : Array (Option Value)} {oc_law_cell kV_law_cell dc_law_cell pm_law_cell cd_law_cell ct_law_cell : Value} (a_law_cell : PySem.W.nsIn K mainGlobals "_law_cell" = some (some (.ref f_law_cell))) (l_law_cell : K.lookup f_law_cell = some ⟨oc_law_cell, od_law_cell, .func (PySem.W.fnOf "_law_cell" "_law_cell" (defArgs s_law_cell) (defBody s_law_cell) (defScope s_law_cell) .none kV_law_cell dc_law_cell pm_law_cell an_law_cell cd_law_cell ct_law_cell), sl_law_cell⟩) (c_law_cell : PySem.W.codeIn K cd_law_cell "_law_cell" = true) (k_law_cell : PySem.W.keepIn K (.ref f_law_cell) = true)
    {f_law_pool : Addr} {od_law_pool an_law_pool : Option Addr} {sl_law_pool : Array (Option Value)} {oc_law_pool kV_law_pool dc_law_pool pm_law_pool cd_law_pool ct_law_pool : Value} (a_law_pool : PySem.W.nsIn K mainGlobals "_law_pool" = some (some (.ref f_law_pool))) (l_law_pool : K.lookup f_law_pool = some ⟨oc_law_pool, od_law_pool, .func (PySem.W.fnOf "_law_pool" "_law_pool" (defArgs s_law_pool) (defBody s_law_pool) (defScope s_law_pool) .none kV_law_pool dc_law_pool pm_law_pool an_law_pool cd_law_pool ct_law_pool), sl_law_pool⟩) (c_law_pool : PySem.W.codeIn K cd_law_pool "_law_pool" = true) (k_law_pool : PySem.W.keepIn K (.ref f_law_pool) = true)
    {f_law_signs : Addr} {od_law_signs an_law_signs : Option Addr} {sl_law_signs : Array (Option Value)} {oc_law_signs kV_law_signs dc_law_signs pm_law_signs cd_law_signs ct_law_signs : Value} (a_law_signs : PySem.W.nsIn K mainGlobals "_law_signs" = some (some (.ref f_law_signs))) (l_law_signs : K.lookup f_law_signs = some ⟨oc_law_signs, od_law_signs, .func (PySem.W.fnOf "_law_signs" "_law_signs" (defArgs s_law_signs) (defBody s_law_signs) (defScope s_law_signs) .none kV_law_signs dc_law_signs pm_law_signs an_law_signs cd_law_signs ct_law_signs), sl_law_signs⟩) (c_law_signs : PySem.W.codeIn K cd_law_signs "_law_signs" = true) (k_law_signs : PySem.W.keepIn K (.ref f_law_signs) = true)
    {f_law_rows : Addr} {od_law_rows an_law_rows : Option Addr} {sl_law_rows : Array (Option Value)} {oc_law_rows kV_law_rows dc_law_rows pm_law_rows cd_law_rows ct_law_rows : Value} (a_law_rows : PySem.W.nsIn K mainGlobals "_law_rows" = some (some (.ref f_law_rows))) (l_law_rows : K.lookup f_law_rows = some ⟨oc_law_rows, od_law_rows, .func (PySem.W.fnOf "_law_rows" "_law_rows" (defArgs s_law_rows) (defBody s_law_rows) (defScope s_law_rows) .none kV_law_rows dc_law_rows pm_law_rows an_law_rows cd_law_rows ct_law_rows), sl_law_rows⟩) (c_law_rows : PySem.W.codeIn K cd_law_rows "_law_rows" = true) (k_law_rows : PySem.W.keepIn K (.ref f_law_rows) = true)
    {f_law_rule : Addr} {od_law_rule an_law_rule : Option Addr} {sl_law_rule : Array (Option Value)} {oc_law_rule kV_law_rule dc_law_rule pm_law_rule cd_law_rule ct_law_rule : Value} (a_law_rule : PySem.W.nsIn K mainGlobals "_law_rule" = some (some (.ref f_law_rule))) (l_law_rule : K.lookup f_law_rule = some ⟨oc_law_rule, od_law_rule, .func (PySem.W.fnOf "_law_rule" "_law_rule" (defArgs s_law_rule) (defBody s_law_rule) (defScope s_law_rule) .none kV_law_rule dc_law_rule pm_law_rule an_law_rule cd_law_rule ct_law_rule), sl_law_rule⟩) (c_law_rule : PySem.W.codeIn K cd_law_rule "_law_rule" = true) (k_law_rule : PySem.W.keepIn K (.ref f_law_rule) = true)
    {f_law_parts : Addr} {od_law_parts an_law_parts : Option Addr} {sl_law_parts : Array (Option Value)} {oc_law_parts kV_law_parts dc_law_parts pm_law_parts cd_law_parts ct_law_parts : Value} (a_law_parts : PySem.W.nsIn K mainGlobals "_law_parts" = some (some (.ref f_law_parts))) (l_law_parts : K.lookup f_law_parts = some ⟨oc_law_parts, od_law_parts, .func (PySem.W.fnOf "_law_parts" "_law_parts" (defArgs s_law_parts) (defBody s_law_parts) (defScope s_law_parts) .none kV_law_parts dc_law_parts pm_law_parts an_law_parts cd_law_parts ct_law_parts), sl_law_parts⟩) (c_law_parts : PySem.W.codeIn K cd_law_parts "_law_parts" = true) (k_law_parts : PySem.W.keepIn K (.ref f_law_parts) = true)
    {f_law_met : Addr} {od_law_met an_law_met : Option Addr} {sl_law_met : Array (Option Value)} {oc_law_met kV_law_met dc_law_met pm_law_met cd_law_met ct_law_met : Value} (a_law_met : PySem.W.nsIn K mainGlobals "_law_met" = some (some (.ref f_law_met))) (l_law_met : K.lookup f_law_met = some ⟨oc_law_met, od_law_met, .func (PySem.W.fnOf "_law_met" "_law_met" (defArgs s_law_met) (defBody s_law_met) (defScope s_law_met) .none kV_law_met dc_law_met pm_law_met an_law_met cd_law_met ct_law_met), sl_law_met⟩) (c_law_met : PySem.W.codeIn K cd_law_met "_law_met" = true) (k_law_met : PySem.W.keepIn K (.ref f_law_met) = true)
    {f_law_one : Addr} {od_law_one an_law_one : Option Addr} {sl_law_one : Array (Option Value)} {oc_law_one kV_law_one dc_law_one pm_law_one cd_law_one ct_law_one : Value} (a_law_one : PySem.W.nsIn K mainGlobals "_law_one" = some (some (.ref f_law_one))) (l_law_one : K.lookup f_law_one = some ⟨oc_law_one, od_law_one, .func (PySem.W.fnOf "_law_one" "_law_one" (defArgs s_law_one) (defBody s_law_one) (defScope s_law_one) .none kV_law_one dc_law_one pm_law_one an_law_one cd_law_one ct_law_one), sl_law_one⟩) (c_law_one : PySem.W.codeIn K cd_law_one "_law_one" = true) (k_law_one : PySem.W.keepIn K (.ref f_law_one) = true)
    {f_law_way : Addr} {od_law_way an_law_way : Option Addr} {sl_law_way : Array (Option Value)} {oc_law_way kV_law_way dc_law_way pm_law_way cd_law_way ct_law_way : Value} (a_law_way : PySem.W.nsIn K mainGlobals "_law_way" = some (some (.ref f_law_way))) (l_law_way : K.lookup f_law_way = some ⟨oc_law_way, od_law_way, .func (PySem.W.fnOf "_law_way" "_law_way" (defArgs s_law_way) (defBody s_law_way) (defScope s_law_way) .none kV_law_way dc_law_way pm_law_way an_law_way cd_law_way ct_law_way), sl_law_way⟩) (c_law_way : PySem.W.codeIn K cd_law_way "_law_way" = true) (k_law_way : PySem.W.keepIn K (.ref f_law_way) = true)
    {f_law_asked : Addr} {od_law_asked an_law_asked : Option Addr} {sl_law_asked : Array (Option Value)} {oc_law_asked kV_law_asked dc_law_asked pm_law_asked cd_law_asked ct_law_asked : Value} (a_law_asked : PySem.W.nsIn K mainGlobals "_law_asked" = some (some (.ref f_law_asked))) (l_law_asked : K.lookup f_law_asked = some ⟨oc_law_asked, od_law_asked, .func (PySem.W.fnOf "_law_asked" "_law_asked" (defArgs s_law_asked) (defBody s_law_asked) (defScope s_law_asked) .none kV_law_asked dc_law_asked pm_law_asked an_law_asked cd_law_asked ct_law_asked), sl_law_asked⟩) (c_law_asked : PySem.W.codeIn K cd_law_asked "_law_asked" = true) (k_law_asked : PySem.W.keepIn K (.ref f_law_asked) = true)
    {f_law : Addr} {od_law an_law : Option Addr} {sl_law : Array (Option Value)} {oc_law kV_law dc_law pm_law cd_law ct_law : Value} (a_law : PySem.W.nsIn K mainGlobals "law" = some (some (.ref f_law))) (l_law : K.lookup f_law = some ⟨oc_law, od_law, .func (PySem.W.fnOf "law" "law" (defArgs s_law) (defBody s_law) (defScope s_law) .none kV_law dc_law pm_law an_law cd_law ct_law), sl_law⟩) (c_law : PySem.W.codeIn K cd_law "law" = true) (k_law : PySem.W.keepIn K (.ref f_law) = true) :
    ∃ fd : FuncData, (∀ (s : Shared) (v : Value), BindsTo s fd ⟨[v], []⟩ [("_law_script", v)]) ∧ ∀ base : Heap, K.In base → base.Ns mainGlobals mg → FnOk l.prog w K mg base (L2.CX l.prog w) 21 fa fd ["_law_script"] (spOf K lawS) := by
  have e := hfa.symm.trans (PySem.W.mg_of X G a_law)
  cases e
  have T : Txt K mg := txt_mk X G zb_ValueError zb_all zb_enumerate zb_int zb_isinstance zb_len zb_list zb_range zb_reversed zb_set zb_str zb_zip zc_MOST zc_MIRROR zc_CAPITALS zc_SMALL zc_MOST_LETTERS zc_MOST_COST zc_MOST_SIGNS zc_MOST_RULES zc_MOST_NAMES zc_JOINT zc_FIRST zc_SECOND xn xq xa_QuiltError xk_QuiltError xt_QuiltError xg_QuiltError xh_QuiltError xs_QuiltError xd_QuiltError xc_QuiltError xm_QuiltError xa_NoFit xk_NoFit xt_NoFit xg_NoFit xh_NoFit xs_NoFit xd_NoFit xc_NoFit xm_NoFit xa_NoRule xk_NoRule xt_NoRule xg_NoRule xh_NoRule xs_NoRule xd_NoRule xc_NoRule xm_NoRule xa_NoGrammar xk_NoGrammar xt_NoGrammar xg_NoGrammar xh_NoGrammar xs_NoGrammar xd_NoGrammar xc_NoGrammar xm_NoGrammar xa_TooMany xk_TooMany xt_TooMany xg_TooMany xh_TooMany xs_TooMany xd_TooMany xc_TooMany xm_TooMany xp_NoRule xp_NoFit xl_NoGrammar xv_NoGrammar xw_NoGrammar xf_NoGrammar xi_NoGrammar xj_NoGrammar xo_NoGrammar xu_NoGrammar xz_NoGrammar xp_TooMany qs_QuiltError qr_QuiltError qf_QuiltError y_NoRule_QuiltError y_NoRule_NoRule y_NoRule_TooMany d_NoRule_TooMany y_NoRule_NoGrammar d_NoRule_NoGrammar y_NoRule_ValueError y_NoFit_QuiltError y_NoFit_NoRule d_NoFit_NoRule y_NoFit_TooMany d_NoFit_TooMany y_NoFit_NoGrammar d_NoFit_NoGrammar y_NoFit_ValueError y_NoGrammar_QuiltError y_NoGrammar_NoRule d_NoGrammar_NoRule y_NoGrammar_TooMany d_NoGrammar_TooMany y_NoGrammar_NoGrammar y_NoGrammar_ValueError y_TooMany_QuiltError y_TooMany_NoRule d_TooMany_NoRule y_TooMany_TooMany y_TooMany_NoGrammar d_TooMany_NoGrammar y_TooMany_ValueError oa_Rule ob_Rule oc_Rule od_Rule oe_Rule of_Rule og_Rule oh_Rule oi_Rule oj_Rule oa_CellRule ob_CellRule oc_CellRule od_CellRule oe_CellRule of_CellRule og_CellRule oh_CellRule oi_CellRule oj_CellRule oa_BesideRule ob_BesideRule oc_BesideRule od_BesideRule oe_BesideRule of_BesideRule og_BesideRule oh_BesideRule oi_BesideRule oj_BesideRule oa_AboveRule ob_AboveRule oc_AboveRule od_AboveRule oe_AboveRule of_AboveRule og_AboveRule oh_AboveRule oi_AboveRule oj_AboveRule oa_TurnRule ob_TurnRule oc_TurnRule od_TurnRule oe_TurnRule of_TurnRule og_TurnRule oh_TurnRule oi_TurnRule oj_TurnRule oa_Grammar ob_Grammar oc_Grammar od_Grammar oe_Grammar of_Grammar og_Grammar oh_Grammar oi_Grammar oj_Grammar na_Rule_name na_Rule_cost ma_Rule_init ml_Rule_init mc_Rule_init mk_Rule_init mf_Rule_init na_CellRule_sign na_CellRule_name na_CellRule_cost ma_CellRule_init ml_CellRule_init mc_CellRule_init mk_CellRule_init mf_CellRule_init ma_CellRule_renamed ml_CellRule_renamed mc_CellRule_renamed mk_CellRule_renamed mf_CellRule_renamed ma_CellRule_told ml_CellRule_told mc_CellRule_told mk_CellRule_told mf_CellRule_told ma_CellRule_parts ml_Rule_parts mc_Rule_parts mk_Rule_parts mf_Rule_parts ma_CellRule_begun ml_Rule_begun mc_Rule_begun mk_Rule_begun mf_Rule_begun na_BesideRule_one na_BesideRule_other na_BesideRule_name na_BesideRule_cost ma_BesideRule_init ml_BesideRule_init mc_BesideRule_init mk_BesideRule_init mf_BesideRule_init ma_BesideRule_parts ml_BesideRule_parts mc_BesideRule_parts mk_BesideRule_parts mf_BesideRule_parts ma_BesideRule_renamed ml_BesideRule_renamed mc_BesideRule_renamed mk_BesideRule_renamed mf_BesideRule_renamed ma_BesideRule_told ml_BesideRule_told mc_BesideRule_told mk_BesideRule_told mf_BesideRule_told ma_BesideRule_begun na_AboveRule_one na_AboveRule_other na_AboveRule_name na_AboveRule_cost ma_AboveRule_init ml_AboveRule_init mc_AboveRule_init mk_AboveRule_init mf_AboveRule_init ma_AboveRule_parts ml_AboveRule_parts mc_AboveRule_parts mk_AboveRule_parts mf_AboveRule_parts ma_AboveRule_renamed ml_AboveRule_renamed mc_AboveRule_renamed mk_AboveRule_renamed mf_AboveRule_renamed ma_AboveRule_told ml_AboveRule_told mc_AboveRule_told mk_AboveRule_told mf_AboveRule_told ma_AboveRule_begun na_TurnRule_part na_TurnRule_turning na_TurnRule_name na_TurnRule_cost ma_TurnRule_init ml_TurnRule_init mc_TurnRule_init mk_TurnRule_init mf_TurnRule_init ma_TurnRule_parts ml_TurnRule_parts mc_TurnRule_parts mk_TurnRule_parts mf_TurnRule_parts ma_TurnRule_renamed ml_TurnRule_renamed mc_TurnRule_renamed mk_TurnRule_renamed mf_TurnRule_renamed ma_TurnRule_told ml_TurnRule_told mc_TurnRule_told mk_TurnRule_told mf_TurnRule_told ma_TurnRule_begun na_Grammar_signs na_Grammar_start na_Grammar_kept_rules na_Grammar_kept_names ma_Grammar_init ml_Grammar_init mc_Grammar_init mk_Grammar_init mf_Grammar_init ma_Grammar_rules ml_Grammar_rules mc_Grammar_rules mk_Grammar_rules mf_Grammar_rules ma_Grammar_many ml_Grammar_many mc_Grammar_many mk_Grammar_many mf_Grammar_many ma_Grammar_names ml_Grammar_names mc_Grammar_names mk_Grammar_names mf_Grammar_names ma_Grammar_told ml_Grammar_told mc_Grammar_told mk_Grammar_told mf_Grammar_told ia_Rule ib_Rule ic_Rule ou_CellRule_CellRule ou_BesideRule_CellRule ov_BesideRule_CellRule ou_AboveRule_CellRule ov_AboveRule_CellRule ou_TurnRule_CellRule ov_TurnRule_CellRule ou_Grammar_CellRule ov_Grammar_CellRule a_wall l_wall c_wall k_wall a_beside l_beside c_beside k_beside a_above l_above c_above k_above a_quarter l_quarter c_quarter k_quarter a_mirrored l_mirrored c_mirrored k_mirrored a_turned l_turned c_turned k_turned a_after l_after c_after k_after a_back l_back c_back k_back a_is_name l_is_name c_is_name k_is_name a_asked_name l_asked_name c_asked_name k_asked_name a_turned_pair l_turned_pair c_turned_pair k_turned_pair a_are_signs l_are_signs c_are_signs k_are_signs a_names_met l_names_met c_names_met k_names_met a_asked_rules l_asked_rules c_asked_rules k_asked_rules a_new_names l_new_names c_new_names k_new_names a_joint_rules l_joint_rules c_joint_rules k_joint_rules a_joined l_joined c_joined k_joined a_law_mix l_law_mix c_law_mix k_law_mix a_law_cell l_law_cell c_law_cell k_law_cell a_law_pool l_law_pool c_law_pool k_law_pool a_law_signs l_law_signs c_law_signs k_law_signs a_law_rows l_law_rows c_law_rows k_law_rows a_law_rule l_law_rule c_law_rule k_law_rule a_law_parts l_law_parts c_law_parts k_law_parts a_law_met l_law_met c_law_met k_law_met a_law_one l_law_one c_law_one k_law_one a_law_way l_law_way c_law_way k_law_way a_law_asked l_law_asked c_law_asked k_law_asked
  exact ⟨PySem.W.fnOf "law" "law" (defArgs s_law) (defBody s_law) (defScope s_law) .none kV_law dc_law pm_law an_law cd_law ct_law, fun s v => .of_eq rfl, fun base _ _ => law_fn (fun_mk l_law c_law k_law) sc_law (body_law T)⟩
end Law
open PySem PySem.W PyProof.Rows
set_option maxRecDepth 100000 in
set_option maxHeartbeats 0 in
theorem PySem.Challenge.cw_quiltlaw_k45_joining_refused_holds : PySem.Challenge.rw_quiltlaw_k45_joining_refused.Holds := by
  w_on; o_law; k_head; (case hw => w_witness2)
  k_fill
  refine L2.walk_of (l := PySem.Challenge.rw_quiltlaw_k45_joining_refused) (n := 63) (k := 21) (x := "_law_script") (CX := fun w => L2.CX PySem.Challenge.rw_quiltlaw_k45_joining_refused.prog w) (sp := fun w => Tw.spOf _ Tw.lawS) rfl (by decide) rfl ⟨rfl, by decide, by decide⟩ (fun w h Y => PySem.W.kIn_of Y) ?F (fun _ H a ns hl _ hS => Tw.law_sp _ H a ns hl hS) (fun w H s e s' => Tw.hCX0 _ w H s e s')
  case F =>
    intro w mg fa h KX G hmg
    refine' Law.all_mk KX G hmg ?zb_ValueError ?zb_all ?zb_enumerate ?zb_int ?zb_isinstance ?zb_len ?zb_list ?zb_range ?zb_reversed ?zb_set ?zb_str ?zb_zip ?zc_MOST ?zc_MIRROR ?zc_CAPITALS ?zc_SMALL ?zc_MOST_LETTERS ?zc_MOST_COST ?zc_MOST_SIGNS ?zc_MOST_RULES ?zc_MOST_NAMES ?zc_JOINT ?zc_FIRST ?zc_SECOND ?xn ?xq ?xa_QuiltError ?xk_QuiltError ?xt_QuiltError ?xg_QuiltError ?xh_QuiltError ?xs_QuiltError ?xd_QuiltError ?xc_QuiltError ?xm_QuiltError ?xa_NoFit ?xk_NoFit ?xt_NoFit ?xg_NoFit ?xh_NoFit ?xs_NoFit ?xd_NoFit ?xc_NoFit ?xm_NoFit ?xa_NoRule ?xk_NoRule ?xt_NoRule ?xg_NoRule ?xh_NoRule ?xs_NoRule ?xd_NoRule ?xc_NoRule ?xm_NoRule ?xa_NoGrammar ?xk_NoGrammar ?xt_NoGrammar ?xg_NoGrammar ?xh_NoGrammar ?xs_NoGrammar ?xd_NoGrammar ?xc_NoGrammar ?xm_NoGrammar ?xa_TooMany ?xk_TooMany ?xt_TooMany ?xg_TooMany ?xh_TooMany ?xs_TooMany ?xd_TooMany ?xc_TooMany ?xm_TooMany ?xp_NoRule ?xp_NoFit ?xl_NoGrammar ?xv_NoGrammar ?xw_NoGrammar ?xf_NoGrammar ?xi_NoGrammar ?xj_NoGrammar ?xo_NoGrammar ?xu_NoGrammar ?xz_NoGrammar ?xp_TooMany ?qs_QuiltError ?qr_QuiltError ?qf_QuiltError ?y_NoRule_QuiltError ?y_NoRule_NoRule ?y_NoRule_TooMany ?d_NoRule_TooMany ?y_NoRule_NoGrammar ?d_NoRule_NoGrammar ?y_NoRule_ValueError ?y_NoFit_QuiltError ?y_NoFit_NoRule ?d_NoFit_NoRule ?y_NoFit_TooMany ?d_NoFit_TooMany ?y_NoFit_NoGrammar ?d_NoFit_NoGrammar ?y_NoFit_ValueError ?y_NoGrammar_QuiltError ?y_NoGrammar_NoRule ?d_NoGrammar_NoRule ?y_NoGrammar_TooMany ?d_NoGrammar_TooMany ?y_NoGrammar_NoGrammar ?y_NoGrammar_ValueError ?y_TooMany_QuiltError ?y_TooMany_NoRule ?d_TooMany_NoRule ?y_TooMany_TooMany ?y_TooMany_NoGrammar ?d_TooMany_NoGrammar ?y_TooMany_ValueError ?oa_Rule ?ob_Rule ?oc_Rule ?od_Rule ?oe_Rule ?of_Rule ?og_Rule ?oh_Rule ?oi_Rule ?oj_Rule ?oa_CellRule ?ob_CellRule ?oc_CellRule ?od_CellRule ?oe_CellRule ?of_CellRule ?og_CellRule ?oh_CellRule ?oi_CellRule ?oj_CellRule ?oa_BesideRule ?ob_BesideRule ?oc_BesideRule ?od_BesideRule ?oe_BesideRule ?of_BesideRule ?og_BesideRule ?oh_BesideRule ?oi_BesideRule ?oj_BesideRule ?oa_AboveRule ?ob_AboveRule ?oc_AboveRule ?od_AboveRule ?oe_AboveRule ?of_AboveRule ?og_AboveRule ?oh_AboveRule ?oi_AboveRule ?oj_AboveRule ?oa_TurnRule ?ob_TurnRule ?oc_TurnRule ?od_TurnRule ?oe_TurnRule ?of_TurnRule ?og_TurnRule ?oh_TurnRule ?oi_TurnRule ?oj_TurnRule ?oa_Grammar ?ob_Grammar ?oc_Grammar ?od_Grammar ?oe_Grammar ?of_Grammar ?og_Grammar ?oh_Grammar ?oi_Grammar ?oj_Grammar ?na_Rule_name ?na_Rule_cost ?ma_Rule_init ?ml_Rule_init ?mc_Rule_init ?mk_Rule_init ?mf_Rule_init ?na_CellRule_sign ?na_CellRule_name ?na_CellRule_cost ?ma_CellRule_init ?ml_CellRule_init ?mc_CellRule_init ?mk_CellRule_init ?mf_CellRule_init ?ma_CellRule_renamed ?ml_CellRule_renamed ?mc_CellRule_renamed ?mk_CellRule_renamed ?mf_CellRule_renamed ?ma_CellRule_told ?ml_CellRule_told ?mc_CellRule_told ?mk_CellRule_told ?mf_CellRule_told ?ma_CellRule_parts ?ml_Rule_parts ?mc_Rule_parts ?mk_Rule_parts ?mf_Rule_parts ?ma_CellRule_begun ?ml_Rule_begun ?mc_Rule_begun ?mk_Rule_begun ?mf_Rule_begun ?na_BesideRule_one ?na_BesideRule_other ?na_BesideRule_name ?na_BesideRule_cost ?ma_BesideRule_init ?ml_BesideRule_init ?mc_BesideRule_init ?mk_BesideRule_init ?mf_BesideRule_init ?ma_BesideRule_parts ?ml_BesideRule_parts ?mc_BesideRule_parts ?mk_BesideRule_parts ?mf_BesideRule_parts ?ma_BesideRule_renamed ?ml_BesideRule_renamed ?mc_BesideRule_renamed ?mk_BesideRule_renamed ?mf_BesideRule_renamed ?ma_BesideRule_told ?ml_BesideRule_told ?mc_BesideRule_told ?mk_BesideRule_told ?mf_BesideRule_told ?ma_BesideRule_begun ?na_AboveRule_one ?na_AboveRule_other ?na_AboveRule_name ?na_AboveRule_cost ?ma_AboveRule_init ?ml_AboveRule_init ?mc_AboveRule_init ?mk_AboveRule_init ?mf_AboveRule_init ?ma_AboveRule_parts ?ml_AboveRule_parts ?mc_AboveRule_parts ?mk_AboveRule_parts ?mf_AboveRule_parts ?ma_AboveRule_renamed ?ml_AboveRule_renamed ?mc_AboveRule_renamed ?mk_AboveRule_renamed ?mf_AboveRule_renamed ?ma_AboveRule_told ?ml_AboveRule_told ?mc_AboveRule_told ?mk_AboveRule_told ?mf_AboveRule_told ?ma_AboveRule_begun ?na_TurnRule_part ?na_TurnRule_turning ?na_TurnRule_name ?na_TurnRule_cost ?ma_TurnRule_init ?ml_TurnRule_init ?mc_TurnRule_init ?mk_TurnRule_init ?mf_TurnRule_init ?ma_TurnRule_parts ?ml_TurnRule_parts ?mc_TurnRule_parts ?mk_TurnRule_parts ?mf_TurnRule_parts ?ma_TurnRule_renamed ?ml_TurnRule_renamed ?mc_TurnRule_renamed ?mk_TurnRule_renamed ?mf_TurnRule_renamed ?ma_TurnRule_told ?ml_TurnRule_told ?mc_TurnRule_told ?mk_TurnRule_told ?mf_TurnRule_told ?ma_TurnRule_begun ?na_Grammar_signs ?na_Grammar_start ?na_Grammar_kept_rules ?na_Grammar_kept_names ?ma_Grammar_init ?ml_Grammar_init ?mc_Grammar_init ?mk_Grammar_init ?mf_Grammar_init ?ma_Grammar_rules ?ml_Grammar_rules ?mc_Grammar_rules ?mk_Grammar_rules ?mf_Grammar_rules ?ma_Grammar_many ?ml_Grammar_many ?mc_Grammar_many ?mk_Grammar_many ?mf_Grammar_many ?ma_Grammar_names ?ml_Grammar_names ?mc_Grammar_names ?mk_Grammar_names ?mf_Grammar_names ?ma_Grammar_told ?ml_Grammar_told ?mc_Grammar_told ?mk_Grammar_told ?mf_Grammar_told ?ia_Rule ?ib_Rule ?ic_Rule ?ou_CellRule_CellRule ?ou_BesideRule_CellRule ?ov_BesideRule_CellRule ?ou_AboveRule_CellRule ?ov_AboveRule_CellRule ?ou_TurnRule_CellRule ?ov_TurnRule_CellRule ?ou_Grammar_CellRule ?ov_Grammar_CellRule ?a_wall ?l_wall ?c_wall ?k_wall ?a_beside ?l_beside ?c_beside ?k_beside ?a_above ?l_above ?c_above ?k_above ?a_quarter ?l_quarter ?c_quarter ?k_quarter ?a_mirrored ?l_mirrored ?c_mirrored ?k_mirrored ?a_turned ?l_turned ?c_turned ?k_turned ?a_after ?l_after ?c_after ?k_after ?a_back ?l_back ?c_back ?k_back ?a_is_name ?l_is_name ?c_is_name ?k_is_name ?a_asked_name ?l_asked_name ?c_asked_name ?k_asked_name ?a_turned_pair ?l_turned_pair ?c_turned_pair ?k_turned_pair ?a_are_signs ?l_are_signs ?c_are_signs ?k_are_signs ?a_names_met ?l_names_met ?c_names_met ?k_names_met ?a_asked_rules ?l_asked_rules ?c_asked_rules ?k_asked_rules ?a_new_names ?l_new_names ?c_new_names ?k_new_names ?a_joint_rules ?l_joint_rules ?c_joint_rules ?k_joint_rules ?a_joined ?l_joined ?c_joined ?k_joined ?a_law_mix ?l_law_mix ?c_law_mix ?k_law_mix ?a_law_cell ?l_law_cell ?c_law_cell ?k_law_cell ?a_law_pool ?l_law_pool ?c_law_pool ?k_law_pool ?a_law_signs ?l_law_signs ?c_law_signs ?k_law_signs ?a_law_rows ?l_law_rows ?c_law_rows ?k_law_rows ?a_law_rule ?l_law_rule ?c_law_rule ?k_law_rule ?a_law_parts ?l_law_parts ?c_law_parts ?k_law_parts ?a_law_met ?l_law_met ?c_law_met ?k_law_met ?a_law_one ?l_law_one ?c_law_one ?k_law_one ?a_law_way ?l_law_way ?c_law_way ?k_law_way ?a_law_asked ?l_law_asked ?c_law_asked ?k_law_asked ?a_law ?l_law ?c_law ?k_law
    (case zb_ValueError => k_is)
    (case zb_all => k_is)
    (case zb_enumerate => k_is)
    (case zb_int => k_is)
    (case zb_isinstance => k_is)
    (case zb_len => k_is)
    (case zb_list => k_is)
    (case zb_range => k_is)
    (case zb_reversed => k_is)
    (case zb_set => k_is)
    (case zb_str => k_is)
    (case zb_zip => k_is)
    (case zc_MOST => k_is)
    (case zc_MIRROR => k_is)
    (case zc_CAPITALS => k_is)
    (case zc_SMALL => k_is)
    (case zc_MOST_LETTERS => k_is)
    (case zc_MOST_COST => k_is)
    (case zc_MOST_SIGNS => k_is)
    (case zc_MOST_RULES => k_is)
    (case zc_MOST_NAMES => k_is)
    (case zc_JOINT => k_is)
    (case zc_FIRST => k_is)
    (case zc_SECOND => k_is)
    (case xn => k_is)
    (case xq => k_is)
    (case xa_QuiltError => k_is)
    (case xk_QuiltError => k_is)
    (case xt_QuiltError => k_is)
    (case xg_QuiltError => k_is)
    (case xh_QuiltError => k_is)
    (case xs_QuiltError => k_is)
    (case xd_QuiltError => k_is)
    (case xc_QuiltError => k_is)
    (case xm_QuiltError => k_is)
    (case xa_NoFit => k_is)
    (case xk_NoFit => k_is)
    (case xt_NoFit => k_is)
    (case xg_NoFit => k_is)
    (case xh_NoFit => k_is)
    (case xs_NoFit => k_is)
    (case xd_NoFit => k_is)
    (case xc_NoFit => k_is)
    (case xm_NoFit => k_is)
    (case xa_NoRule => k_is)
    (case xk_NoRule => k_is)
    (case xt_NoRule => k_is)
    (case xg_NoRule => k_is)
    (case xh_NoRule => k_is)
    (case xs_NoRule => k_is)
    (case xd_NoRule => k_is)
    (case xc_NoRule => k_is)
    (case xm_NoRule => k_is)
    (case xa_NoGrammar => k_is)
    (case xk_NoGrammar => k_is)
    (case xt_NoGrammar => k_is)
    (case xg_NoGrammar => k_is)
    (case xh_NoGrammar => k_is)
    (case xs_NoGrammar => k_is)
    (case xd_NoGrammar => k_is)
    (case xc_NoGrammar => k_is)
    (case xm_NoGrammar => k_is)
    (case xa_TooMany => k_is)
    (case xk_TooMany => k_is)
    (case xt_TooMany => k_is)
    (case xg_TooMany => k_is)
    (case xh_TooMany => k_is)
    (case xs_TooMany => k_is)
    (case xd_TooMany => k_is)
    (case xc_TooMany => k_is)
    (case xm_TooMany => k_is)
    (case xp_NoRule => k_exc)
    (case xp_NoFit => k_exc)
    (case xl_NoGrammar => k_is)
    (case xv_NoGrammar => decide +kernel)
    (case xw_NoGrammar => k_is)
    (case xf_NoGrammar => k_is)
    (case xi_NoGrammar => k_is)
    (case xj_NoGrammar => k_is)
    (case xo_NoGrammar => k_is)
    (case xu_NoGrammar => k_is)
    (case xz_NoGrammar => k_is)
    (case xp_TooMany => k_exc)
    (case qs_QuiltError => k_is)
    (case qr_QuiltError => k_is)
    (case qf_QuiltError => k_is)
    (case y_NoRule_QuiltError => k_is)
    (case y_NoRule_NoRule => k_is)
    (case y_NoRule_TooMany => k_is)
    (case d_NoRule_TooMany => decide)
    (case y_NoRule_NoGrammar => k_is)
    (case d_NoRule_NoGrammar => decide)
    (case y_NoRule_ValueError => k_is)
    (case y_NoFit_QuiltError => k_is)
    (case y_NoFit_NoRule => k_is)
    (case d_NoFit_NoRule => decide)
    (case y_NoFit_TooMany => k_is)
    (case d_NoFit_TooMany => decide)
    (case y_NoFit_NoGrammar => k_is)
    (case d_NoFit_NoGrammar => decide)
    (case y_NoFit_ValueError => k_is)
    (case y_NoGrammar_QuiltError => k_is)
    (case y_NoGrammar_NoRule => k_is)
    (case d_NoGrammar_NoRule => decide)
    (case y_NoGrammar_TooMany => k_is)
    (case d_NoGrammar_TooMany => decide)
    (case y_NoGrammar_NoGrammar => k_is)
    (case y_NoGrammar_ValueError => k_is)
    (case y_TooMany_QuiltError => k_is)
    (case y_TooMany_NoRule => k_is)
    (case d_TooMany_NoRule => decide)
    (case y_TooMany_TooMany => k_is)
    (case y_TooMany_NoGrammar => k_is)
    (case d_TooMany_NoGrammar => decide)
    (case y_TooMany_ValueError => k_is)
    (case oa_Rule => k_is)
    (case ob_Rule => k_is)
    (case oc_Rule => k_is)
    (case od_Rule => k_is)
    (case oe_Rule => k_is)
    (case of_Rule => k_is)
    (case og_Rule => k_is)
    (case oh_Rule => k_is)
    (case oi_Rule => k_is)
    (case oj_Rule => k_is)
    (case oa_CellRule => k_is)
    (case ob_CellRule => k_is)
    (case oc_CellRule => k_is)
    (case od_CellRule => k_is)
    (case oe_CellRule => k_is)
    (case of_CellRule => k_is)
    (case og_CellRule => k_is)
    (case oh_CellRule => k_is)
    (case oi_CellRule => k_is)
    (case oj_CellRule => k_is)
    (case oa_BesideRule => k_is)
    (case ob_BesideRule => k_is)
    (case oc_BesideRule => k_is)
    (case od_BesideRule => k_is)
    (case oe_BesideRule => k_is)
    (case of_BesideRule => k_is)
    (case og_BesideRule => k_is)
    (case oh_BesideRule => k_is)
    (case oi_BesideRule => k_is)
    (case oj_BesideRule => k_is)
    (case oa_AboveRule => k_is)
    (case ob_AboveRule => k_is)
    (case oc_AboveRule => k_is)
    (case od_AboveRule => k_is)
    (case oe_AboveRule => k_is)
    (case of_AboveRule => k_is)
    (case og_AboveRule => k_is)
    (case oh_AboveRule => k_is)
    (case oi_AboveRule => k_is)
    (case oj_AboveRule => k_is)
    (case oa_TurnRule => k_is)
    (case ob_TurnRule => k_is)
    (case oc_TurnRule => k_is)
    (case od_TurnRule => k_is)
    (case oe_TurnRule => k_is)
    (case of_TurnRule => k_is)
    (case og_TurnRule => k_is)
    (case oh_TurnRule => k_is)
    (case oi_TurnRule => k_is)
    (case oj_TurnRule => k_is)
    (case oa_Grammar => k_is)
    (case ob_Grammar => k_is)
    (case oc_Grammar => k_is)
    (case od_Grammar => k_is)
    (case oe_Grammar => k_is)
    (case of_Grammar => k_is)
    (case og_Grammar => k_is)
    (case oh_Grammar => k_is)
    (case oi_Grammar => k_is)
    (case oj_Grammar => k_is)
    (case na_Rule_name => k_is)
    (case na_Rule_cost => k_is)
    (case ma_Rule_init => k_is)
    (case ml_Rule_init => k_is)
    (case mc_Rule_init => k_is)
    (case mk_Rule_init => k_is)
    (case mf_Rule_init => k_is)
    (case na_CellRule_sign => k_is)
    (case na_CellRule_name => k_is)
    (case na_CellRule_cost => k_is)
    (case ma_CellRule_init => k_is)
    (case ml_CellRule_init => k_is)
    (case mc_CellRule_init => k_is)
    (case mk_CellRule_init => k_is)
    (case mf_CellRule_init => k_is)
    (case ma_CellRule_renamed => k_is)
    (case ml_CellRule_renamed => k_is)
    (case mc_CellRule_renamed => k_is)
    (case mk_CellRule_renamed => k_is)
    (case mf_CellRule_renamed => k_is)
    (case ma_CellRule_told => k_is)
    (case ml_CellRule_told => k_is)
    (case mc_CellRule_told => k_is)
    (case mk_CellRule_told => k_is)
    (case mf_CellRule_told => k_is)
    (case ma_CellRule_parts => k_is)
    (case ml_Rule_parts => k_is)
    (case mc_Rule_parts => k_is)
    (case mk_Rule_parts => k_is)
    (case mf_Rule_parts => k_is)
    (case ma_CellRule_begun => k_is)
    (case ml_Rule_begun => k_is)
    (case mc_Rule_begun => k_is)
    (case mk_Rule_begun => k_is)
    (case mf_Rule_begun => k_is)
    (case na_BesideRule_one => k_is)
    (case na_BesideRule_other => k_is)
    (case na_BesideRule_name => k_is)
    (case na_BesideRule_cost => k_is)
    (case ma_BesideRule_init => k_is)
    (case ml_BesideRule_init => k_is)
    (case mc_BesideRule_init => k_is)
    (case mk_BesideRule_init => k_is)
    (case mf_BesideRule_init => k_is)
    (case ma_BesideRule_parts => k_is)
    (case ml_BesideRule_parts => k_is)
    (case mc_BesideRule_parts => k_is)
    (case mk_BesideRule_parts => k_is)
    (case mf_BesideRule_parts => k_is)
    (case ma_BesideRule_renamed => k_is)
    (case ml_BesideRule_renamed => k_is)
    (case mc_BesideRule_renamed => k_is)
    (case mk_BesideRule_renamed => k_is)
    (case mf_BesideRule_renamed => k_is)
    (case ma_BesideRule_told => k_is)
    (case ml_BesideRule_told => k_is)
    (case mc_BesideRule_told => k_is)
    (case mk_BesideRule_told => k_is)
    (case mf_BesideRule_told => k_is)
    (case ma_BesideRule_begun => k_is)
    (case na_AboveRule_one => k_is)
    (case na_AboveRule_other => k_is)
    (case na_AboveRule_name => k_is)
    (case na_AboveRule_cost => k_is)
    (case ma_AboveRule_init => k_is)
    (case ml_AboveRule_init => k_is)
    (case mc_AboveRule_init => k_is)
    (case mk_AboveRule_init => k_is)
    (case mf_AboveRule_init => k_is)
    (case ma_AboveRule_parts => k_is)
    (case ml_AboveRule_parts => k_is)
    (case mc_AboveRule_parts => k_is)
    (case mk_AboveRule_parts => k_is)
    (case mf_AboveRule_parts => k_is)
    (case ma_AboveRule_renamed => k_is)
    (case ml_AboveRule_renamed => k_is)
    (case mc_AboveRule_renamed => k_is)
    (case mk_AboveRule_renamed => k_is)
    (case mf_AboveRule_renamed => k_is)
    (case ma_AboveRule_told => k_is)
    (case ml_AboveRule_told => k_is)
    (case mc_AboveRule_told => k_is)
    (case mk_AboveRule_told => k_is)
    (case mf_AboveRule_told => k_is)
    (case ma_AboveRule_begun => k_is)
    (case na_TurnRule_part => k_is)
    (case na_TurnRule_turning => k_is)
    (case na_TurnRule_name => k_is)
    (case na_TurnRule_cost => k_is)
    (case ma_TurnRule_init => k_is)
    (case ml_TurnRule_init => k_is)
    (case mc_TurnRule_init => k_is)
    (case mk_TurnRule_init => k_is)
    (case mf_TurnRule_init => k_is)
    (case ma_TurnRule_parts => k_is)
    (case ml_TurnRule_parts => k_is)
    (case mc_TurnRule_parts => k_is)
    (case mk_TurnRule_parts => k_is)
    (case mf_TurnRule_parts => k_is)
    (case ma_TurnRule_renamed => k_is)
    (case ml_TurnRule_renamed => k_is)
    (case mc_TurnRule_renamed => k_is)
    (case mk_TurnRule_renamed => k_is)
    (case mf_TurnRule_renamed => k_is)
    (case ma_TurnRule_told => k_is)
    (case ml_TurnRule_told => k_is)
    (case mc_TurnRule_told => k_is)
    (case mk_TurnRule_told => k_is)
    (case mf_TurnRule_told => k_is)
    (case ma_TurnRule_begun => k_is)
    (case na_Grammar_signs => k_is)
    (case na_Grammar_start => k_is)
    (case na_Grammar_kept_rules => k_is)
    (case na_Grammar_kept_names => k_is)
    (case ma_Grammar_init => k_is)
    (case ml_Grammar_init => k_is)
    (case mc_Grammar_init => k_is)
    (case mk_Grammar_init => k_is)
    (case mf_Grammar_init => k_is)
    (case ma_Grammar_rules => k_is)
    (case ml_Grammar_rules => k_is)
    (case mc_Grammar_rules => k_is)
    (case mk_Grammar_rules => k_is)
    (case mf_Grammar_rules => k_is)
    (case ma_Grammar_many => k_is)
    (case ml_Grammar_many => k_is)
    (case mc_Grammar_many => k_is)
    (case mk_Grammar_many => k_is)
    (case mf_Grammar_many => k_is)
    (case ma_Grammar_names => k_is)
    (case ml_Grammar_names => k_is)
    (case mc_Grammar_names => k_is)
    (case mk_Grammar_names => k_is)
    (case mf_Grammar_names => k_is)
    (case ma_Grammar_told => k_is)
    (case ml_Grammar_told => k_is)
    (case mc_Grammar_told => k_is)
    (case mk_Grammar_told => k_is)
    (case mf_Grammar_told => k_is)
    (case ia_Rule => k_is)
    (case ib_Rule => k_is)
    (case ic_Rule => k_is)
    (case ou_CellRule_CellRule => k_is)
    (case ou_BesideRule_CellRule => k_is)
    (case ov_BesideRule_CellRule => decide)
    (case ou_AboveRule_CellRule => k_is)
    (case ov_AboveRule_CellRule => decide)
    (case ou_TurnRule_CellRule => k_is)
    (case ov_TurnRule_CellRule => decide)
    (case ou_Grammar_CellRule => k_is)
    (case ov_Grammar_CellRule => decide)
    (case a_wall => k_is)
    (case l_wall => k_is)
    (case c_wall => k_is)
    (case k_wall => k_is)
    (case a_beside => k_is)
    (case l_beside => k_is)
    (case c_beside => k_is)
    (case k_beside => k_is)
    (case a_above => k_is)
    (case l_above => k_is)
    (case c_above => k_is)
    (case k_above => k_is)
    (case a_quarter => k_is)
    (case l_quarter => k_is)
    (case c_quarter => k_is)
    (case k_quarter => k_is)
    (case a_mirrored => k_is)
    (case l_mirrored => k_is)
    (case c_mirrored => k_is)
    (case k_mirrored => k_is)
    (case a_turned => k_is)
    (case l_turned => k_is)
    (case c_turned => k_is)
    (case k_turned => k_is)
    (case a_after => k_is)
    (case l_after => k_is)
    (case c_after => k_is)
    (case k_after => k_is)
    (case a_back => k_is)
    (case l_back => k_is)
    (case c_back => k_is)
    (case k_back => k_is)
    (case a_is_name => k_is)
    (case l_is_name => k_is)
    (case c_is_name => k_is)
    (case k_is_name => k_is)
    (case a_asked_name => k_is)
    (case l_asked_name => k_is)
    (case c_asked_name => k_is)
    (case k_asked_name => k_is)
    (case a_turned_pair => k_is)
    (case l_turned_pair => k_is)
    (case c_turned_pair => k_is)
    (case k_turned_pair => k_is)
    (case a_are_signs => k_is)
    (case l_are_signs => k_is)
    (case c_are_signs => k_is)
    (case k_are_signs => k_is)
    (case a_names_met => k_is)
    (case l_names_met => k_is)
    (case c_names_met => k_is)
    (case k_names_met => k_is)
    (case a_asked_rules => k_is)
    (case l_asked_rules => k_is)
    (case c_asked_rules => k_is)
    (case k_asked_rules => k_is)
    (case a_new_names => k_is)
    (case l_new_names => k_is)
    (case c_new_names => k_is)
    (case k_new_names => k_is)
    (case a_joint_rules => k_is)
    (case l_joint_rules => k_is)
    (case c_joint_rules => k_is)
    (case k_joint_rules => k_is)
    (case a_joined => k_is)
    (case l_joined => k_is)
    (case c_joined => k_is)
    (case k_joined => k_is)
    (case a_law_mix => k_is)
    (case l_law_mix => k_is)
    (case c_law_mix => k_is)
    (case k_law_mix => k_is)
    (case a_law_cell => k_is)
    (case l_law_cell => k_is)
    (case c_law_cell => k_is)
    (case k_law_cell => k_is)
    (case a_law_pool => k_is)
    (case l_law_pool => k_is)
    (case c_law_pool => k_is)
    (case k_law_pool => k_is)
    (case a_law_signs => k_is)
    (case l_law_signs => k_is)
    (case c_law_signs => k_is)
    (case k_law_signs => k_is)
    (case a_law_rows => k_is)
    (case l_law_rows => k_is)
    (case c_law_rows => k_is)
    (case k_law_rows => k_is)
    (case a_law_rule => k_is)
    (case l_law_rule => k_is)
    (case c_law_rule => k_is)
    (case k_law_rule => k_is)
    (case a_law_parts => k_is)
    (case l_law_parts => k_is)
    (case c_law_parts => k_is)
    (case k_law_parts => k_is)
    (case a_law_met => k_is)
    (case l_law_met => k_is)
    (case c_law_met => k_is)
    (case k_law_met => k_is)
    (case a_law_one => k_is)
    (case l_law_one => k_is)
    (case c_law_one => k_is)
    (case k_law_one => k_is)
    (case a_law_way => k_is)
    (case l_law_way => k_is)
    (case c_law_way => k_is)
    (case k_law_way => k_is)
    (case a_law_asked => k_is)
    (case l_law_asked => k_is)
    (case c_law_asked => k_is)
    (case k_law_asked => k_is)
    (case a_law => k_is)
    (case l_law => k_is)
    (case c_law => k_is)
    (case k_law => k_is)
