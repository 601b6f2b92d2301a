import PyProof.Rows.All
import Wide.All
import OpenK.AllK
import Wide.FinOn
import HandS.ForMost
import HandS.ForExc
import HandS.Wide
import HandS.EndBits
import HandS.IsInst
import HandS.ExcInit
import HandS.ExcIs
import HandS.RevTup
import HandS.MapObj
import HandS.MapJoin
import HandS.Rev
import PySem.Challenge.RW_quiltlaw_k02_pictures_as_texts
set_option Elab.async false
set_option linter.all false
set_option maxRecDepth 100000
set_option maxHeartbeats 4000000
/-! RevStr: sep.join(reversed(text)): what the library lacks for turnings.mirrored. -/
namespace RevS
open PySem PySem.Spec PyProof.Rows RT MpR

theorem norev_str : typeLookup (.type "str") "__reversed__" = pure none := by rw [typeLookup_type, builtinLookup_eq_fast]; kernel_rfl
theorem get_str : typeLookup (.type "str") "__getitem__" = pure (some (.builtin "str.__getitem__")) := by rw [typeLookup_type, builtinLookup_eq_fast]; kernel_rfl
theorem sub_str_dict : isSubtype (.type "str") (.type "dict") = pure false := by rw [isSubtype_type]; kernel_rfl
theorem nolen_rev : typeLookup (.type "reversed") "__len__" = pure none := by rw [typeLookup_type, builtinLookup_eq_fast]; kernel_rfl
theorem slot_hint : Slot "reversed" "__length_hint__" "reversed.__length_hint__" :=
  .of (owner := "reversed") (n := "__length_hint__") (by rw [typeLookup_type, builtinLookup_eq_fast]; kernel_rfl) (by decide +kernel) (by decide +kernel) (by decide +kernel)
    (by first | exact .inl (by decide +kernel) | exact .inr (by decide +kernel)) (by rw [isSubtype_type]; kernel_rfl)
theorem entry_hint : entryFor table "reversed.__length_hint__" = some Builtin.«reversed.__length_hint__» := entryFor_of_tree (by kernel_rfl)
theorem args_hint (a : Value) : argsOk "reversed.__length_hint__" ⟨[a], []⟩ := by
  unfold argsOk; rw [signature?_of (id := "reversed.__length_hint__") (n := ['_', '_', 't', 'n', 'i', 'h', '_', 'h', 't', 'g', 'n', 'e', 'l', '_', '_']) (o := ['d', 'e', 's', 'r', 'e', 'v', 'e', 'r']) (by kernel_rfl) owner_rt]; kernel_rfl

def rsObj (x : Str) (t : Tok) (i : Int) : Obj := { cls := .type "reversed", data := .fields #[.str x t, rawInt i] }
def IsRs (h : Heap) (a : Addr) (x : Str) (t : Tok) (i : Int) : Prop := ∃ o, h.get? a = some o ∧ o.cls = .type "reversed" ∧ o.data = .fields #[.str x t, rawInt i]
theorem IsRs.at {h h' : Heap} {a : Addr} {x : Str} {t : Tok} {i : Int} (q : IsRs h a x t i) (e : ∀ o, h.get? a = some o → h'.get? a = some o) : IsRs h' a x t i := let ⟨o, ho, r⟩ := q; ⟨o, e _ ho, r⟩
section
variable {prog : Program} {w : World} {A : Around} {E : Value → Shared → Prop} {s : Shared}
theorem IsRs.typeIs {a : Addr} {x : Str} {t : Tok} {i : Int} (q : IsRs s.heap a x t i) : s.TypeIs (.ref a) "reversed" := let ⟨o, ho, hc, _⟩ := q; ⟨o, ho, hc⟩

theorem code_reversed_str {x : Str} {t : Tok} {Q₁ : Value → Shared → Prop} (hz : x.length ≤ sizeLine)
    (h : Q₁ (.ref s.heap.objs.size) { s with heap := s.heap.push (rsObj x t ((x.length : Int) - 1)), toks := s.toks + 1 + 1 }) :
    codeAny (model prog w) A (.call (.builtin "reversed.__new__") ⟨[.type "reversed", .str x t], []⟩) (wants Q₁ E) s := by
  have hT : s.TypeIs (.str x t) "str" := typeIs_str _ _ _
  refine codeAny_of_tree ?_
  show wpAny _ A.in1 (do checkBuiltinCall "reversed.__new__" ⟨[.type "reversed", .str x t], []⟩; again (.builtin "reversed.__new__" ⟨[.type "reversed", .str x t], []⟩)) _ _ s
  refine wpAny_bind (wpAny_of_eq (F.newCall_reversed_1 _) (wpAny_pure ⟨plainId_quiet F.plain_reversed_new _, codeAny_builtin F.entry_reversed_new ?_⟩))
  rw [Around.under_plainId F.plain_reversed_new _]
  unfold Builtin.«reversed.__new__»
  refine wpAny_bind (wpAny_of_eq (newClass_reversed _) ?_)
  try dsimp only
  refine wpAny_bind (wpAny_of_eq (a := ()) (by first | rfl | kernel_rfl) ?_)
  try dsimp only
  refine wpAny_bind (wpAny_of_eq (a := ()) (by first | rfl | kernel_rfl) ?_)
  try dsimp only
  refine wpAny_bind (wpAny_specialOf hT norev_str ?_)
  try dsimp only
  refine wpAny_bind ?_
  wp_delta
  refine wpAny_bind (wpAny_isInstance (T := "str") (U := "dict") (b := false) hT sub_str_dict ?_)
  try dsimp only
  try rw [if_neg Bool.false_ne_true]
  try dsimp only
  refine wpAny_bind (wpAny_specialOf hT get_str ?_)
  try dsimp only
  try rw [if_pos (by decide +kernel)]
  refine wpAny_pure ?_
  try dsimp only
  try rw [if_neg (by decide)]
  try dsimp only
  refine wpAny_bind (P.len_str (by have := L2.line63; omega) ?_)
  refine wpAny_bind (wpAny_of_eq (a := some ((x.length : Nat) : Int)) rfl ?_)
  try dsimp only
  refine wpAny_bind ?_
  show wpAny _ _ (newObj (.type "reversed") (.fields #[.str x t, rawInt ((x.length : Int) - 1)])) _ _ _
  refine wpAny_newObj_type ?_
  exact wpAny_pure h

theorem call_reversed_str {x : Str} {t : Tok} {Q : Value → Shared → Prop} (hz : x.length ≤ sizeLine)
    (h : Q (.ref s.heap.objs.size) { s with heap := s.heap.push (rsObj x t ((x.length : Int) - 1)), toks := s.toks + 1 + 1 }) : wpAny (model prog w) A (call (.type "reversed") [.str x t]) Q E s := by
  refine callType_codes (Q₁ := fun obj s₁ => s₁.TypeIs obj "reversed" ∧ Q obj s₁) called_rt (F.typeCall_reversed_1 _) F.entry_object_init
    (code_reversed_str (A := A.in1) hz ⟨⟨_, Heap.get?_push_size _ rfl, rfl⟩, h⟩) fun obj s₁ h₁ => ?_
  exact ⟨h₁.1, F.args_object_init_2 obj _, object_init_meets called_rt.init.lookup called_rt.made (by decide) prog w A.in1 _ s₁ ⟨h₁.1, rfl, h₁.2⟩⟩

theorem next_rs_item {it : Addr} {x : Str} {t : Tok} {i c : Nat} {Q : Option Value → Shared → Prop} (hit : IsRs s.heap it x t (i : Int)) (hx : x.cps[i]? = some c) (hsz : x.length ≤ sizeLine)
    (hQ : ∀ h' tk, IsRs h' it x t ((i : Int) - 1) → Heap.SameBut it s.heap h' → Q (some (.str ⟨#[c]⟩ (s.toks + 1))) { s with heap := h', toks := tk }) : wpAny (model prog w) A (pyNext (.ref it)) Q E s := by
  obtain ⟨o, ho, hc, hd⟩ := id hit
  have hi : i < x.length := (Array.getElem?_eq_some_iff.mp hx).1
  have hT : s.TypeIs (.str x t) "str" := typeIs_str _ _ _
  have hn := L2.line63
  unfold pyNext
  refine wpAny_bind (wpAny_attempt (wpAny_callSpecial?_slot (name := Str.ofString "__next__") hit.typeIs slot_rt_next
    (wpAny_call_entry slot_rt_next hit.typeIs entry_rt_next ?_ (args_rt_next _))))
  unfold Builtin.«reversed.__next__»
  refine wpAny_bind (wpAny_of_eq (a := (Value.ref it, [])) rfl ?_)
  try dsimp only
  refine wpAny_bind (wpAny_field ho hd (x := .str x t) rfl ?_)
  try dsimp only
  refine wpAny_bind (wpAny_field ho hd (x := rawInt (i : Int)) rfl ?_)
  show wpAny _ _ (if (i : Int) < 0 then _ else _) _ _ s
  rw [if_neg (by omega)]
  try dsimp only
  refine wpAny_bind (wpAny_specialOf hT get_str ?_)
  try dsimp only
  try rw [if_neg (by decide)]
  try dsimp only
  refine wpAny_bind (wpAny_mkInt ?_)
  refine wpAny_bind (wpAny_attempt ?_)
  have fin : seqIndex? (i : Int) x.length = some i := seqIndex_of (by omega) (by omega)
  refine P.getItem_str (s := { s with toks := s.toks + 1 }) (c := c) (by
    have e1 : decide ((i : Int) < -(2 ^ 63 : Int)) = false := decide_eq_false (by omega)
    have e2 : decide ((i : Int) ≥ 2 ^ 63) = false := decide_eq_false (by omega)
    rw [e1, e2, Bool.or_false]) (by rw [fin]; simpa using hx) ?_
  try dsimp only
  refine wpAny_bind (wpAny_field (s := { s with toks := s.toks + 1 + 1 }) ho hd (x := rawInt (i : Int)) rfl ?_)
  try dsimp only
  refine wpAny_bind (wpAny_setField (s := { s with toks := s.toks + 1 + 1 }) ho hd (by simp) ?_)
  first
  | refine wpAny_pure ⟨_, rfl, wpAny_pure (hQ _ _ ?_ (Heap.SameBut.update ..))⟩
  | refine wpAny_bind (wpAny_pure (wpAny_pure ⟨_, rfl, wpAny_pure (hQ _ _ ?_ (Heap.SameBut.update ..))⟩))
  exact ⟨_, Heap.get?_update_self _ ho (Obj.isFreed_of_fields (Obj.data_mapFields hd _)), (Obj.cls_mapFields ..).trans hc, by
    rw [Obj.data_mapFields hd]; simp⟩

theorem next_rs_end {it : Addr} {x : Str} {t : Tok} {Q : Option Value → Shared → Prop} (hh : A.handled = none) (hit : IsRs s.heap it x t (-1))
    (hQ : ∀ h', Heap.ExtBut it s.heap h' → Q none { s with heap := h' }) : wpAny (model prog w) A (pyNext (.ref it)) Q E s := by
  obtain ⟨o, ho, hc, hd⟩ := id hit
  unfold pyNext
  refine wpAny_bind (wpAny_attempt (wpAny_callSpecial?_slot (name := Str.ofString "__next__") hit.typeIs slot_rt_next
    (wpAny_call_entry slot_rt_next hit.typeIs entry_rt_next ?_ (args_rt_next _))))
  unfold Builtin.«reversed.__next__»
  refine wpAny_bind (wpAny_of_eq (a := (Value.ref it, [])) rfl ?_)
  try dsimp only
  refine wpAny_bind (wpAny_field ho hd (x := .str x t) rfl ?_)
  try dsimp only
  refine wpAny_bind (wpAny_field ho hd (x := rawInt (-1)) rfl ?_)
  show wpAny _ _ (if (-1 : Int) < 0 then _ else _) _ _ s
  rw [if_pos (by decide)]
  try dsimp only
  refine wpAny_bind (wpAny_rule ?_)
  refine wpAny_bind ?_
  wp_delta
  refine wpAny_bind (wpAny_setField ho hd (by simp) ?_)
  have ho2 := Heap.get?_update_self (Obj.mapFields (·.setIfInBounds 1 (rawInt (-1)))) ho (Obj.isFreed_of_fields (Obj.data_mapFields hd _))
  refine wpAny_setField (s := { s with heap := s.heap.update it (Obj.mapFields (·.setIfInBounds 1 (rawInt (-1)))) }) ho2 (Obj.data_mapFields hd _) (by simp) ?_
  try dsimp only
  first
  | show wpAny _ _ (newExc (.type "StopIteration") [] >>= _) _ _ _
  | (refine wpAny_bind ?_; show wpAny _ _ (newExc (.type "StopIteration") [] >>= _) _ _ _)
  | (refine wpAny_bind ?_; wp_delta; show wpAny _ _ (newExc (.type "StopIteration") [] >>= _) _ _ _)
  refine wpAny_bind ?_
  simp only [newExc, newTuple]
  refine wpAny_bind (wpAny_newObj_type ?_ (by size_fits))
  refine wpAny_bind (m := firstArgMember _ _) (wpAny_of_eq (a := Value.none) (by first | rfl | (simp only [firstArgMember]; rfl)) ?_)
  refine wpAny_newObj_type ?_ (by size_fits)
  simp only [raiseNew]
  refine wpAny_bind (wpAny_handled ?_)
  first | rw [show A.in1.handled = none from hh] | rw [hh]
  refine wpAny_bind (wpAny_pure (wpAny_throw ?_))
  refine wpAny_bind (wpAny_isInstance (T := "StopIteration") (b := true) ⟨_, Heap.get?_push_size _ rfl, rfl⟩ isSubtype_stop ?_)
  refine wpAny_pure (hQ _ ?_)
  refine ((?_ : Heap.ExtBut it s.heap _).push _).push _
  exact fun b ob hb e => (Heap.get?_update_other _ _ (Ne.symm hb)).trans ((Heap.get?_update_other _ _ (Ne.symm hb)).trans e)

theorem iter_rs {it : Addr} {x : Str} {t : Tok} {i : Int} {Q : Value → Shared → Prop} (hit : IsRs s.heap it x t i) (h : Q (.ref it) s) : wpAny (model prog w) A (pyIter (.ref it)) Q E s := by
  refine wpAny_pyIter_slot hit.typeIs slot_rt_iter (wpAny_call_entry slot_rt_iter hit.typeIs entry_rt_iter ?_ (args_rt_iter _))
  show wpAny _ _ (ret (.ref it)) _ _ s
  exact wpAny_pure ⟨_, rfl, "reversed", _, hit.typeIs, slot_rt_next.lookup, h⟩
end

theorem walks_rs {prog : Program} {w : World} {A : Around} (hh : A.handled = none) (I : Addr) (x : Str) (t : Tok) (hsz : x.length ≤ sizeLine) :
    Walks prog w A I [I] [I] x.length (fun i v => ∃ c tk, x.cps[x.length - 1 - i]? = some c ∧ v = .str ⟨#[c]⟩ tk) (fun i h => i ≤ x.length ∧ IsRs h I x t ((x.length : Int) - 1 - (i : Int))) where
  sub := fun b hb => hb
  frame := fun _ _ _ q hk => ⟨q.1, q.2.at fun o e => hk I (by simp) o e⟩
  item := fun i s Q E hi q hQ => by
    have e : (x.length : Int) - 1 - (i : Int) = ((x.length - 1 - i : Nat) : Int) := by omega
    have hit := q.2
    rw [e] at hit
    have hlt : x.length - 1 - i < x.cps.size := by show x.length - 1 - i < x.length; omega
    have hx : x.cps[x.length - 1 - i]? = some (x.cps[x.length - 1 - i]'hlt) := Array.getElem?_eq_getElem hlt
    refine next_rs_item hit hx hsz fun h' tk hit' hs' => ?_
    have e2 : ((x.length - 1 - i : Nat) : Int) - 1 = (x.length : Int) - 1 - ((i + 1 : Nat) : Int) := by omega
    rw [e2] at hit'
    exact hQ _ h' tk ⟨_, _, hx, rfl⟩ ⟨hi, hit'⟩ fun b o hb eo => hs'.extBut b o (fun h => hb (by simp [h])) eo
  done := fun s Q E q hQ => by
    have e : (x.length : Int) - 1 - (x.length : Int) = -1 := by omega
    have hit := q.2
    rw [e] at hit
    exact next_rs_end hh hit fun h' he' => hQ h' s.toks fun b o hb eo => he' b o (fun h => hb (by simp [h])) eo
  self := fun _ _ _ _ q hQ => iter_rs q.2 hQ

section
variable {prog : Program} {w : World} {A : Around} {E : Value → Shared → Prop} {s : Shared}
/-- its length is asked for, the first time -/
theorem call_hint {it : Addr} {x : Str} {t : Tok} {Q : Value → Shared → Prop} (hit : IsRs s.heap it x t ((x.length : Int) - 1)) (hz : x.length ≤ sizeLine)
    (h : ∀ tk k, s.toks ≤ k → Q (.int x.length tk) { s with toks := k }) : wpAny (model prog w) A (call (.builtin "reversed.__length_hint__") [.ref it]) Q E s := by
  obtain ⟨o, ho, hc, hd⟩ := id hit
  refine wpAny_call_entry slot_hint hit.typeIs entry_hint ?_ (args_hint _)
  unfold Builtin.«reversed.__length_hint__»
  refine wpAny_bind (wpAny_of_eq (a := Value.ref it) rfl ?_)
  try dsimp only
  refine wpAny_bind (wpAny_field ho hd (x := .str x t) rfl ?_)
  try dsimp only
  rw [if_neg (by intro q; cases q)]
  try dsimp only
  refine wpAny_bind (P.len_str (by have := L2.line63; omega) ?_)
  refine wpAny_bind (wpAny_of_eq (a := some ((x.length : Nat) : Int)) rfl ?_)
  try dsimp only
  refine wpAny_bind (wpAny_field (s := { s with toks := s.toks + 1 + 1 }) ho hd (x := rawInt ((x.length : Int) - 1)) rfl ?_)
  try dsimp only
  have e : (x.length : Int) - 1 + 1 = x.length := by omega
  show wpAny _ _ (if (x.length : Int) < (x.length : Int) - 1 + 1 then _ else _) _ _ _
  rw [if_neg (by omega), e]
  refine wpAny_bind (wpAny_mkInt ?_)
  exact wpAny_pure ⟨_, rfl, h _ _ (by show s.toks ≤ s.toks + 1 + 1 + 1; omega)⟩
end
section
variable {prog : Program} {w : World} {A : Around} {E : Value → Shared → Prop} {s : Shared}
theorem collect_rs {I : Addr} {x : Str} {t : Tok} {Q : List Value → Shared → Prop} (hh : A.handled = none) (hz : x.length ≤ sizeLine) (hit : IsRs s.heap I x t ((x.length : Int) - 1))
    (hQ : ∀ s' acc, Moved [I] (fun a b => b = a) s s' → ItemsOf (fun i v => ∃ c tk, x.cps[x.length - 1 - i]? = some c ∧ v = .str ⟨#[c]⟩ tk) acc x.length → Q acc.toList s') : wpAny (model prog w) A (collect (.ref I)) Q E s := by
  have W := (walks_rs (prog := prog) (w := w) (A := A.in1) hh I x t hz).toS
  have hst : 0 ≤ x.length ∧ IsRs s.heap I x t ((x.length : Int) - 1 - ((0 : Nat) : Int)) := ⟨Nat.zero_le _, by rw [show ((x.length : Int) - 1 - ((0 : Nat) : Int)) = (x.length : Int) - 1 by omega]; exact hit⟩
  obtain ⟨oi, hoi, _⟩ := id hit
  have hSI : s.heap.objs.size ≠ I := Nat.ne_of_gt (Heap.lt_size hoi)
  have hSf : s.heap.objs.size ∉ [I] := by simp only [List.mem_singleton]; exact hSI
  unfold collect
  refine wpAny_bind (wpAny_runValue (codeAny_builtin F.entry_proto_collect ?_))
  rw [Around.under_plainId F.plain_proto_collect _]
  show wpAny _ A.in1 (newList [] >>= fun l => again (.builtin "list.__iadd__" ⟨[l, .ref I], []⟩)) _ _ s
  refine wpAny_bind (wpAny_newObj_type ?_)
  refine wpAny_pure ⟨plainId_quiet F.plain_list_iadd _, codeAny_builtin F.entry_list_iadd ?_⟩
  rw [Around.under_plainId F.plain_list_iadd _]
  have hit₁ : IsRs (s.heap.push { cls := .type "list", data := .seq ([] : List Value).toArray }) I x t ((x.length : Int) - 1) := hit.at fun o e => Heap.get?_push_of_some _ e
  have hT : ({ s with heap := s.heap.push { cls := .type "list", data := .seq ([] : List Value).toArray } } : Shared).TypeIs (.ref I) "reversed" := IsRs.typeIs (s := { s with heap := s.heap.push { cls := .type "list", data := .seq ([] : List Value).toArray } }) hit₁
  have hst₁ := W.frame 0 s (s.heap.push { cls := .type "list", data := .seq ([] : List Value).toArray }) s.toks hst (Nat.le_refl _) fun b _ o e => Heap.get?_push_of_some _ e
  show wpAny _ A.in1 (Builtin.List.listExtendWith (.ref s.heap.objs.size) (.ref I) (.ref s.heap.objs.size)) _ _ _
  unfold Builtin.List.listExtendWith
  refine wpAny_bind (wpAny_typeOf hT ?_)
  have h1 : Builtin.List.listSameRef (.ref s.heap.objs.size) (.ref I) = false := by simp [Builtin.List.listSameRef, hSI]
  have h2 : (Value.type "reversed" == Value.type "list") = false := by decide
  have h3 : (Value.type "reversed" == Value.type "tuple") = false := by decide
  simp only [h1, h2, h3, Bool.or_false, Bool.false_eq_true, if_false]
  refine wpAny_bind (W.self 0 _ _ _ hst₁ ?_)
  refine wpAny_bind (wpAny_holding ?_)
  unfold Builtin.List.listLengthHint
  refine wpAny_bind (wpAny_specialOf hT nolen_rev ?_)
  show wpAny _ A.in1 (specialOf (Value.ref I) (Str.ofString "__length_hint__") >>= _) _ _ _
  refine wpAny_bind (wpAny_specialOf hT slot_hint.lookup ?_)
  generalize hid : ("reversed.__length_hint__" : String) = id0
  wp_delta
  rw [show splitId id0 = some ("reversed", "__length_hint__") from by subst hid; decide +kernel]
  subst hid
  refine wpAny_bind (wpAny_isInstance (b := true) hT F.sub_reversed_self ?_)
  simp only [Bool.not_true, Bool.false_eq_true, if_false]
  rw [if_neg (by decide +kernel)]
  refine wpAny_bind (wpAny_rule ?_)
  refine wpAny_bind (wpAny_of_eq (slot_hint.bind _) ?_)
  try dsimp only
  refine wpAny_bind (wpAny_attempt (call_hint (s := { s with heap := s.heap.push { cls := .type "list", data := .seq ([] : List Value).toArray } }) hit₁ hz fun tk k hk => ?_))
  try dsimp only
  have hn63 := L2.line63
  have e0 : ((x.length : Nat) : Int) ≥ 0 := by omega
  have hfi : Builtin.List.listFitsIndex ((x.length : Nat) : Int) = true := by
    unfold Builtin.List.listFitsIndex
    rw [decide_eq_true (by omega), decide_eq_true (by omega)]; rfl
  have hlong : Builtin.List.listTooLong (((x.length : Nat) : Int)).toNat = false := L2.notLongL (by simpa using hz)
  have hm : asInt? (Value.int ((x.length : Nat) : Int) tk) = pure (some ((x.length : Nat) : Int)) := by simp only [asInt?]
  rw [hm]
  rw [pure_bind]
  try dsimp only
  rw [hfi, if_neg (by decide), if_neg (show ¬ ((x.length : Nat) : Int) < 0 by omega), hlong, if_neg (by decide)]
  refine wpAny_pure ?_
  have hS₁ : (s.heap.push { cls := .type "list", data := .seq ([] : List Value).toArray }).get? s.heap.objs.size = some { cls := .type "list", data := .seq ([] : List Value).toArray } := Heap.get?_push_size _ rfl
  have hS0 : ({ s with heap := s.heap.push { cls := .type "list", data := .seq ([] : List Value).toArray }, toks := k } : Shared).heap.get? s.heap.objs.size = some { cls := .type "list", data := .seq ([] : List Value).toArray } := hS₁
  by_cases hz0 : x.length = 0
  · rw [hz0]
    rw [if_neg (by decide +kernel)]
    refine wpAny_pure ⟨plainId_quiet F.plain_extend_loop _, codeAny_extend_loopS W hz _ hSf _ x.length 0 _ _ _ rfl (Nat.zero_le _) ⟨Nat.zero_le _, by rw [show ((x.length : Int) - 1 - ((0 : Nat) : Int)) = (x.length : Int) - 1 by omega]; exact hit₁⟩ hS0 (ItemsOf.nil _) fun s' acc' c' hm hS' hacc => ?_⟩
    show wpAny _ A (load s.heap.objs.size >>= _) _ _ s'
    refine wpAny_bind (wpAny_load hS' ?_)
    refine wpAny_pure (hQ s' acc' ?_ hacc)
    refine ⟨fun b o hb e => ?_, hm.gens, hm.drawn, hm.os, ?_⟩
    · refine hm.heap b o (fun hmem => ?_) (Heap.get?_push_of_some _ e)
      rcases List.mem_cons.mp hmem with e' | hmem
      · exact absurd (Heap.lt_size e) (by rw [e']; exact Nat.lt_irrefl _)
      · exact hb hmem
    · exact Nat.le_trans hk hm.toks
  · rw [if_pos (by
      have : (((x.length : Nat) : Int) != 0) = true := by
        rw [bne_iff_ne]; omega
      rw [this]; rfl)]
    refine wpAny_bind (wpAny_rule ?_)
    refine wpAny_bind ?_
    show wpAny _ A.in1 (updateSeq s.heap.objs.size (·.push .none) >>= fun _ => updateSeq s.heap.objs.size (·.pop)) _ _ _
    refine wpAny_bind (wpAny_updateSeq hS0 rfl ?_ (Nat.zero_le _) (Nat.succ_le_succ (Nat.zero_le _)))
    have hS₂ := Heap.get?_update_self (Obj.mapSeq (·.push Value.none)) hS₁ rfl
    refine wpAny_updateSeq hS₂ rfl ?_ (by show 1 ≤ sizeLine; decide) (Nat.zero_le _)
    have hS₃ := Heap.get?_update_self (Obj.mapSeq (·.pop)) hS₂ rfl
    have oth : ∀ b o, b ≠ s.heap.objs.size → (s.heap.push { cls := .type "list", data := .seq ([] : List Value).toArray }).get? b = some o →
        (((s.heap.push { cls := .type "list", data := .seq ([] : List Value).toArray }).update s.heap.objs.size (Obj.mapSeq (·.push Value.none))).update s.heap.objs.size (Obj.mapSeq (·.pop))).get? b = some o :=
      fun b o hb e => (Heap.get?_update_other _ _ (Ne.symm hb)).trans ((Heap.get?_update_other _ _ (Ne.symm hb)).trans e)
    have hit3 := hit₁.at fun o e => oth I o (Ne.symm hSI) e
    refine wpAny_pure ⟨plainId_quiet F.plain_extend_loop _, codeAny_extend_loopS W hz _ hSf _ x.length 0 _ _ _ rfl (Nat.zero_le _) ⟨Nat.zero_le _, by rw [show ((x.length : Int) - 1 - ((0 : Nat) : Int)) = (x.length : Int) - 1 by omega]; exact hit3⟩ hS₃ (ItemsOf.nil _) fun s' acc' c' hm hS' hacc => ?_⟩
    show wpAny _ A (load s.heap.objs.size >>= _) _ _ s'
    refine wpAny_bind (wpAny_load hS' ?_)
    refine wpAny_pure (hQ s' acc' ?_ hacc)
    refine ⟨fun b o hb e => ?_, hm.gens, hm.drawn, hm.os, ?_⟩
    · have hbs : b ≠ s.heap.objs.size := Nat.ne_of_lt (Heap.lt_size e)
      refine hm.heap b o (fun hmem => ?_) (oth b o hbs (Heap.get?_push_of_some _ e))
      rcases List.mem_cons.mp hmem with e' | hmem
      · exact hbs e'
      · exact hb hmem
    · exact Nat.le_trans hk hm.toks
end

def one (c : Nat) : Str := ⟨#[c]⟩
theorem strs_rs {x : Str} {acc : Array Value} (h : ItemsOf (fun i v => ∃ c tk, x.cps[x.length - 1 - i]? = some c ∧ v = .str ⟨#[c]⟩ tk) acc x.length) : StrsAre acc.toList (x.cps.toList.reverse.map one) := by
  obtain ⟨h1, h2⟩ := h
  have hz : acc.toList.length = (x.cps.toList.reverse.map one).length := by simp [h1, Str.length]
  have key : ∀ (i : Nat) (v : Value), acc.toList[i]? = some v → ∃ (y : Str) (t : Tok), (x.cps.toList.reverse.map one)[i]? = some y ∧ v = .str y t := by
    intro i v hv
    have hv' : acc[i]? = some v := by simpa using hv
    have hi : i < x.length := by
      have h3 := (Array.getElem?_eq_some_iff.mp hv').1
      omega
    obtain ⟨c, tk, hc, rfl⟩ := h2 i v hv'
    refine ⟨⟨#[c]⟩, tk, ?_, rfl⟩
    have hl : x.cps.toList.length = x.length := by simp [Str.length]
    rw [List.getElem?_map, List.getElem?_reverse (by omega), hl, Array.getElem?_toList, hc]
    rfl
  generalize x.cps.toList.reverse.map one = ys at hz key
  generalize acc.toList = L at hz key
  clear h1 h2
  induction L generalizing ys with
  | nil =>
    cases ys with
    | nil => exact .nil
    | cons y r => simp at hz
  | cons v L ih =>
    cases ys with
    | nil => simp at hz
    | cons y ys =>
      obtain ⟨y', t, hy, rfl⟩ := key 0 v rfl
      have ey : y = y' := Option.some.inj hy
      subst ey
      exact .cons y t (ih ys (by simpa using hz) fun i v' hv => key (i + 1) v' (by simpa using hv))
section
variable {prog : Program} {w : World} {A : Around} {E : Value → Shared → Prop} {s : Shared}
theorem join_rs {I : Addr} {x a : Str} {t u : Tok} {Q : Value → Shared → Prop} (hh : A.handled = none) (hz : x.length ≤ sizeLine) (hit : IsRs s.heap I x t ((x.length : Int) - 1))
    (hok : x.length + x.length * a.length ≤ 16777216)
    (hq : ∀ s', Moved [I] (fun a b => b = a) s s' → ∀ t' k, Q (.str (Txt.join a (x.cps.toList.reverse.map one)) t') { s' with toks := k }) :
    wpAny (model prog w) A (call (.builtin "str.join") [.str a u, .ref I]) Q E s := by
  have hT : s.TypeIs (.ref I) "reversed" := hit.typeIs
  have hl : x.cps.toList.length = x.length := by simp [Str.length]
  have hok2 : ((x.cps.toList.reverse.map one).map (·.length)).sum + (x.cps.toList.reverse.map one).length * a.length ≤ 16777216 := by
    have e1 : ((x.cps.toList.reverse.map one).map (·.length)).sum = x.length := by
      rw [List.map_map, show ((fun y : Str => y.length) ∘ one) = fun _ => 1 from rfl]
      rw [List.map_const', List.sum_replicate_nat]
      simp [Str.length]
    rw [e1, List.length_map, List.length_reverse, hl]
    exact hok
  refine wpAny_call (codeAny_call_builtin F.slot_str_join.plain F.entry_str_join (F.slot_str_join.check _ _ _ _ _ _ _ _ (typeIs_str _ _ _) (F.args_str_join_2 _ _) ?_))
  rw [join_tree_other]
  refine wpAny_bind (wpAny_typeOf hT ?_)
  show wpAny _ A.in1 ((pyIter (.ref I)).tryCatch _ >>= fun it => collect it >>= fun items => joinTail a items) _ _ s
  refine wpAny_bind (wpAny_tryCatch (iter_rs hit ?_))
  refine wpAny_bind (collect_rs (A := A.in1) hh hz hit fun s' acc hm hacc => ?_)
  obtain ⟨l, hl2, ht⟩ := strsAre_values (strs_rs hacc)
  rw [hl2]
  rw [← ht] at hok2 hq
  have hok' := joinOk_of hok2
  unfold JoinOk at hok'
  rw [Bool.not_eq_true'] at hok'
  have g : Gives (joinTail a (strValues l)) (joinMade a l) := by
    have g0 := gives_joinTail a l hok'
    cases l with
    | nil => exact g0
    | cons p r => cases r with
      | nil => exact g0
      | cons q r' => exact g0
  exact g prog w A (wants Q E) s' (post_join l ⟨joinFit_length hok', hq s' hm⟩)
end
end RevS
namespace L2
open PySem PySem.Spec PyProof.Rows
/-- sep.join(reversed(text)) -/
def tJoinRev (to te : TE) : TE := fun σ H Q => to σ H fun x H1 => (∃ a, x = .str a) ∧ te σ H1 fun v H2 => ∃ (a z : Str), x = .str a ∧ v = .str z ∧ z.length ≤ sizeLine ∧ z.length + z.length * a.length ≤ 16777216 ∧
  Q (.str (Txt.join a (z.cps.toList.reverse.map RevS.one))) H2
theorem pe_joinRev {X : Cx} {o e : Expr} {to te : TE} {apos pos p pos2 : Pos} (hc : X.calm = true) (ho : PE X o to) (hg : Gl X "reversed") (hm : X.mg "reversed" = none) (he : PE X e te)
    (hs1 : starEach [.Call (.Name "reversed" p) [e] [] pos2] X.env = [(false, eval (.Call (.Name "reversed" p) [e] [] pos2) X.env)] := by rfl)
    (hs : starEach [e] X.env = (false, eval e X.env) :: starEach [] X.env := by rfl)
    (hbase : attributeBase o "join" X.env (eval o X.env) = eval o X.env := by rfl) (hline : (apos.endLine == pos.line) = true := by rfl) :
    PE X (.Call (.Attribute o "join" apos) [.Call (.Name "reversed" p) [e] [] pos2] [] pos) (tJoinRev to te) := by
  refine ⟨fun pins s σ H Q I h => ?_⟩
  refine PySem.Call_method1 hbase hs1 hline (thn (ho.run pins s σ H _ I h) fun v s1 ⟨x, H1, I1, r1, q1⟩ => ?_)
  obtain ⟨⟨a, rfl⟩, q1⟩ := q1
  obtain ⟨t, rfl⟩ := _root_.id r1
  refine ⟨"str", _, F.plainAttrs_str, F.slot_str_join, F.type_str_join, typeIs_str _ _ _, (fun _ e => nomatch e), Calls.callWith_builtin rfl (Calls.evalArgs_plain (Calls.spliced_cons ?_))⟩
  refine Call_ (ld_blt I1 hg hm PyProof.Rows.boot_reversed (PyProof.Rows.callWith_type1 (args_cons (thn (he.run pins s1 σ H1 _ I1 q1) fun u s2 ⟨v, H2, I2, r2, q2⟩ => args_nil ?_) hs) hs rfl))
  obtain ⟨a', z, ea, ev, hz, hk, q⟩ := q2
  cases ea
  subst ev
  obtain ⟨t2, rfl⟩ := _root_.id r2
  refine RevS.call_reversed_str hz (Calls.spliced_nil ?_)
  have hit : RevS.IsRs (s2.heap.push (RevS.rsObj z t2 ((z.length : Int) - 1))) s2.heap.objs.size z t2 ((z.length : Int) - 1) := ⟨_, Heap.get?_push_size _ rfl, rfl, rfl⟩
  refine RevS.join_rs (s := { s2 with heap := s2.heap.push (RevS.rsObj z t2 ((z.length : Int) - 1)), toks := s2.toks + 1 + 1 }) (I2.ok.hd hc) hz hit hk fun s' hm' t' k => ?_
  have kp : ∀ b o, s2.heap.get? b = some o → s'.heap.get? b = some o := fun b o e => hm'.heap b o (by
    simp only [List.mem_singleton]
    exact Nat.ne_of_lt (Heap.lt_size e)) (Heap.get?_push_of_some _ e)
  rw [Moved.eq_with hm']
  exact ⟨.str _, H2, I2.kept (t' := k) kp, ⟨t', rfl⟩, q⟩
end L2

/-! for i, c in enumerate(text) -/
namespace EnumS
open PySem PySem.Spec PyProof.Rows L2
/-- a text's signs with their numbers, each in a new pair -/
def IteS (x : Str) : It :=
  ⟨fun i _ => i < x.cps.size, fun i H v H' => ∃ T c, v = .ref T ∧ H T = none ∧ H' = upd H T (.tup [.int (i : Nat), .str ⟨#[c]⟩]) ∧ x.cps[i]? = some c, fun i _ => x.cps.size = i⟩
theorem draws_str {prog : Program} {w : World} {A : Around} (hh : A.handled = none) (it : Addr) (x : Str) (t : Tok) : Draws prog w A it [it] x.cps.size (SignAt x) (fun i h => h.IsStrIter it (strIterType x) x t i) := by
  unfold strIterType
  split
  · exact Draws.strAscii hh it x t
  · exact Draws.strWide hh it x t
theorem turn_enumS {P : Program} {w : World} {K : PySem.W.Frag} {elts : List Expr} {kk : Nat} {tpos : Pos} (x : Str) (t : Tok) (e it : Addr) :
    Turn P w K (.Tuple elts kk tpos) (IteS x) [e, it] e (fun i h => (∃ old, IsEnum h e it ((i : Nat) : Int) old) ∧ h.IsStrIter it (strIterType x) x t i ∧ e ≠ it) where
  mem := by simp
  obj := fun i h st b hb => by
    obtain ⟨⟨old, he⟩, ⟨o, ho, hc, hd⟩, _⟩ := st
    have e' : b = e ∨ b = it := by simpa using hb
    rcases e' with z | z
    · rw [z]; exact ⟨_, he, fun v q => nomatch q⟩
    · rw [z]; exact ⟨o, ho, fun v q => by rw [hd] at q; cases q⟩
  keep := fun i h h' st k => let ⟨⟨old, he⟩, ⟨o, ho, r⟩, hne⟩ := st; ⟨⟨old, k e (by simp) _ he⟩, ⟨o, k it (by simp) o ho, r⟩, hne⟩
  item := by
    intro X hP hw hK hc i pins s σ H E I hf st hg
    subst hP hw hK
    obtain ⟨⟨old, he⟩, hit, hne⟩ := st
    have hel : e < s.heap.objs.size := Heap.lt_size he
    have hil : it < s.heap.objs.size := by obtain ⟨_, q, _⟩ := hit; exact Heap.lt_size q
    refine wpAny_pyNext_enum_itemD (draws_str (A := X.A.in1) (show X.A.handled = none from I.ok.hd hc) it x t) he hit hg hne (by simpa using hne) fun v h' tk hPv ho hit' hT hsz hk => ?_
    obtain ⟨c, u, hcx, rfl⟩ := hPv
    refine ⟨_, rfl, wpAny_letOwnedTupleGo_enum (s := { s with heap := h', toks := tk + 1 }) ho fun h'' he' sb => ?_⟩
    have hT2 : h''.get? s.heap.objs.size = some { cls := .type "tuple", data := .seq #[.int i tk, .str ⟨#[c]⟩ u] } := (sb.2 _ (Nat.ne_of_gt hel)).trans hT
    have new : ObjOk X.prog X.w (upd H s.heap.objs.size (.tup [.int (i : Nat), .str ⟨#[c]⟩])) h'' s.heap.objs.size (.tup [.int (i : Nat), .str ⟨#[c]⟩]) :=
      ⟨by show 2 ≤ sizeLine; decide, [.int i tk, .str ⟨#[c]⟩ u], .cons ⟨_, rfl⟩ (.cons ⟨_, rfl⟩ .nil), ⟨_, hT2, rfl, _, rfl⟩⟩
    have I1 : Inv X pins σ (upd H s.heap.objs.size (.tup [.int (i : Nat), .str ⟨#[c]⟩])) { s with heap := h'', toks := tk + 1 } :=
      I.turnedNew (ch := [e, it]) (fun b ob hb q => (sb.2 b (fun z => hb (by simp [z]))).trans (hk b ob (fun z => hb (by simp [z])) (fun z => hb (by simp [z])) q)) hf (Nat.le_refl _) new
    refine ⟨.ref s.heap.objs.size, _, I1, rfl, ⟨_, c, rfl, I.hok.fresh (Nat.le_refl _), rfl, hcx⟩, ⟨⟨.str ⟨#[c]⟩ u, ?_⟩, ?_, hne⟩, fun b hb => ?_⟩
    · have e1 : ((i + 1 : Nat) : Int) = (i : Int) + 1 := by omega
      rw [e1]; exact he'
    · obtain ⟨o, ho', r⟩ := hit'
      exact ⟨o, (sb.2 it (Ne.symm hne)).trans ho', r⟩
    · have hb' : b < s.heap.objs.size := by
        have e' : b = e ∨ b = it := by simpa using hb
        rcases e' with z | z
        · rw [z]; exact hel
        · rw [z]; exact hil
      rw [upd_ne (Nat.ne_of_lt hb')]
      exact (hf b hb).1
  done := by
    intro X hP hw hK hc i pins s σ H E I hf st hg
    subst hP hw hK
    obtain ⟨⟨old, he⟩, hit, hne⟩ := st
    have hg' : x.cps.size = i := hg
    subst hg'
    obtain ⟨f0, f1, f2, f3, f4, f5⟩ := hf it (by simp)
    exact wpAny_pyNext_enum_endD (draws_str (A := X.A.in1) (show X.A.handled = none from I.ok.hd hc) it x t) he hit fun h' eb => ⟨rfl, I.turned (t' := s.toks) (fun b o hb q => eb b o hb q) f0 f1 f3 f4 f5⟩
  self := fun A i s Q E st h => let ⟨⟨_, he⟩, _⟩ := st; wpAny_pyIter_enum he h
def iEnumS (ta : TA) : TI := fun σ H R => ta σ H fun vs H1 => ∃ x, vs = [.str x] ∧ R (IteS x) H1
theorem pi_enumS {X : Cx} {e : Expr} {ta : TA} {p pos tpos : Pos} {elts : List Expr} {kk : Nat} (hg : Gl X "enumerate") (hm : X.mg "enumerate" = none) (ha : PA X [e] ta) (hs : starEach [e] X.env = [(false, eval e X.env)] := by rfl) :
    PI X (.Tuple elts kk tpos) (.Call (.Name "enumerate" p) [e] [] pos) (iEnumS ta) := by
  refine ⟨fun pins s σ H R I h => ?_⟩
  refine Call_ (ld_blt I hg hm boot_enumerate (PyProof.Rows.callWith_type1 (thn (ha.run pos pins s σ H _ I h) fun us s1 ⟨vs, H1, I1, r1, q1⟩ => ?_) hs rfl))
  obtain ⟨x, ex, q⟩ := q1
  subst ex
  cases r1 with
  | cons r rr =>
    cases rr
    obtain ⟨t, rfl⟩ := r
    refine call_enumerate_str fun h' he hit hsz hk => wpAny_pyIter_enum he ?_
    have I2 : Inv X pins σ H1 { s1 with heap := h' } := I1.kept (t' := s1.toks) hk
    refine ⟨s1.heap.objs.size + 1, [s1.heap.objs.size + 1, s1.heap.objs.size], _, _, H1, rfl, I2, turn_enumS x t (s1.heap.objs.size + 1) s1.heap.objs.size, ⟨⟨.none, he⟩, hit, Nat.succ_ne_self _⟩, fun b hb => ?_, q⟩
    have e' : b = s1.heap.objs.size + 1 ∨ b = s1.heap.objs.size := by simpa using hb
    have hle : s1.heap.objs.size ≤ b := by
      rcases e' with z | z
      · rw [z]; exact Nat.le_add_right _ _
      · rw [z]; exact Nat.le_refl _
    exact I1.fpOk hle (I1.hok.fresh hle)
end EnumS

/-! Tw: typed judgements over HandS: values as Lean data in a frozen heap F inside the heap H. -/
namespace Tw
open PySem PySem.Spec PyProof.Rows L2 TL

/-! ### typed data in a heap -/
class Rep (α : Type) where
  rp : PySem.W.Frag → Hp → V → α → Prop
  mono : ∀ {K : PySem.W.Frag} {F F' : Hp} {v : V} {x : α}, Same F F' → rp K F v x → rp K F' v x
abbrev rp {α : Type} {i : Rep α} (K : PySem.W.Frag) (F : Hp) (v : V) (x : α) : Prop := i.rp K F v x
abbrev Tx := List Nat
def sx (x : Tx) : Str := ⟨x.toArray⟩
theorem tl_sx (x : Tx) : tl (sx x) = x := rfl
theorem sx_tl (x : Str) : sx (tl x) = x := mk_tl x
theorem sx_inj {x y : Tx} (h : sx x = sx y) : x = y := by have := congrArg tl h; simpa [tl_sx] using this
theorem sx_len (x : Tx) : (sx x).length = x.length := by rw [len_tl]; rfl
theorem sx_app (x y : Tx) : sx x ++ sx y = sx (x ++ y) := ext_tl (by rw [tl_append]; rfl)
instance repInt : Rep Int := ⟨fun _ _ v x => v = .int x, fun _ h => h⟩
instance repBool : Rep Bool := ⟨fun _ _ v x => v = .bl x, fun _ h => h⟩
instance repUnit : Rep Unit := ⟨fun _ _ v _ => v = .non, fun _ h => h⟩
instance repTx : Rep (List Nat) := ⟨fun _ _ v x => v = .str (sx x), fun _ h => h⟩
instance repList {α : Type} [i : Rep α] : Rep (List α) := ⟨fun K H v xs => ∃ a vs, v = .ref a ∧ H a = some (.lst vs) ∧ Paired (fun u x => i.rp K H u x) vs xs,
  fun s ⟨a, vs, e, h, p⟩ => ⟨a, vs, e, s _ _ h, Paired.mapP p fun _ _ q => i.mono s q⟩⟩
/-- a tuple of like things -/
structure Tup (α : Type) where
  l : List α
instance repTup {α : Type} [i : Rep α] : Rep (Tup α) := ⟨fun K H v xs => ∃ a vs, v = .ref a ∧ H a = some (.tup vs) ∧ Paired (fun u x => i.rp K H u x) vs xs.l,
  fun s ⟨a, vs, e, h, p⟩ => ⟨a, vs, e, s _ _ h, Paired.mapP p fun _ _ q => i.mono s q⟩⟩
instance repPair {α β : Type} [i : Rep α] [j : Rep β] : Rep (α × β) := ⟨fun K H v x => ∃ a u w, v = .ref a ∧ H a = some (.tup [u, w]) ∧ i.rp K H u x.1 ∧ j.rp K H w x.2,
  fun s ⟨a, u, w, e, h, p, q⟩ => ⟨a, u, w, e, s _ _ h, i.mono s p, j.mono s q⟩⟩
instance repOpt {α : Type} [i : Rep α] : Rep (Option α) := ⟨fun K H v x => match x with | none => v = .non | some y => i.rp K H v y,
  fun {K F F' v x} s h => by cases x with | none => exact h | some y => exact i.mono s h⟩
/-- the script -/
structure Scr where
  l : List Int
instance repScr : Rep Scr := ⟨fun K H v x => ∃ a, v = .ref a ∧ SqL K H a (x.l.map V.int), fun s ⟨a, e, h⟩ => ⟨a, e, s.seq h⟩⟩

abbrev Rps {α : Type} [i : Rep α] (K : PySem.W.Frag) (F : Hp) (vs : List V) (xs : List α) : Prop := Paired (fun u x => i.rp K F u x) vs xs
section
variable {α β : Type} [i : Rep α] [j : Rep β] {K : PySem.W.Frag} {F F' : Hp} {vs : List V} {xs : List α}
theorem Rps.mono (s : Same F F') (h : Rps K F vs xs) : Rps K F' vs xs := Paired.mapP h fun _ _ q => i.mono s q
theorem Rps.len (h : Rps K F vs xs) : vs.length = xs.length := Paired.length h
theorem pgetL {A B : Type} {G : A → B → Prop} : ∀ {l : List A} {m : List B} {k : Nat} {b : B}, Paired G l m → m[k]? = some b → ∃ a, l[k]? = some a ∧ G a b
  | _, _, 0, _, .cons r _, e => by simp at e; subst e; exact ⟨_, rfl, r⟩
  | _, _, k + 1, b, .cons _ t, e => by
    obtain ⟨a, h1, h2⟩ := pgetL (k := k) (b := b) t (by simpa using e)
    exact ⟨a, by simpa using h1, h2⟩
theorem pgetR {A B : Type} {G : A → B → Prop} {l : List A} {m : List B} {k : Nat} {a : A} (h : Paired G l m) (e : l[k]? = some a) : ∃ b, m[k]? = some b ∧ G a b := paired_get h e
theorem ptake {A B : Type} {G : A → B → Prop} : ∀ {l : List A} {m : List B} (n : Nat), Paired G l m → Paired G (l.take n) (m.take n)
  | _, _, 0, _ => .nil
  | _, _, _ + 1, .nil => .nil
  | _, _, n + 1, .cons r t => .cons r (ptake n t)
theorem pdrop {A B : Type} {G : A → B → Prop} : ∀ {l : List A} {m : List B} (n : Nat), Paired G l m → Paired G (l.drop n) (m.drop n)
  | _, _, 0, r => r
  | _, _, _ + 1, .nil => .nil
  | _, _, n + 1, .cons _ t => pdrop n t
theorem papp {A B : Type} {G : A → B → Prop} : ∀ {l l' : List A} {m m' : List B}, Paired G l m → Paired G l' m' → Paired G (l ++ l') (m ++ m')
  | _, _, _, _, .nil, s => s
  | _, _, _, _, .cons r t, s => .cons r (papp t s)
theorem prev {A B : Type} {G : A → B → Prop} : ∀ {l : List A} {m : List B}, Paired G l m → Paired G l.reverse m.reverse
  | _, _, .nil => .nil
  | _, _, .cons r t => by
    rw [List.reverse_cons, List.reverse_cons]
    exact papp (prev t) (.cons r .nil)
theorem pset {A B : Type} {G : A → B → Prop} {a : A} {b : B} (g : G a b) : ∀ {l : List A} {m : List B} (n : Nat), Paired G l m → Paired G (l.set n a) (m.set n b)
  | _, _, _, .nil => .nil
  | _, _, 0, .cons _ t => .cons g t
  | _, _, n + 1, .cons r t => .cons r (pset g n t)
theorem Rps.ints {ns : List Int} : ∀ {vs : List V}, Paired (fun u x => repInt.rp K F u x) vs ns → vs = ns.map V.int := by
  induction ns with
  | nil => intro vs h; cases h; rfl
  | cons n ns ih =>
    intro vs h
    cases h with
    | cons r t =>
      obtain rfl : _ = V.int n := r
      rw [ih t]
      rfl
theorem Rps.bls {ns : List Bool} : ∀ {vs : List V}, Paired (fun u x => repBool.rp K F u x) vs ns → vs = ns.map V.bl := by
  induction ns with
  | nil => intro vs h; cases h; rfl
  | cons n ns ih =>
    intro vs h
    cases h with
    | cons r t =>
      obtain rfl : _ = V.bl n := r
      rw [ih t]
      rfl
theorem Rps.strs {ns : List Tx} : ∀ {vs : List V}, Paired (fun u x => repTx.rp K F u x) vs ns → vs = (ns.map sx).map V.str := by
  induction ns with
  | nil => intro vs h; cases h; rfl
  | cons n ns ih =>
    intro vs h
    cases h with
    | cons r t =>
      obtain rfl : _ = V.str (sx n) := r
      rw [ih t]
      rfl
theorem Rps.of_ints : ∀ (ns : List Int), Rps K F (ns.map V.int) ns
  | [] => .nil
  | n :: ns => .cons rfl (Rps.of_ints ns)
theorem Rps.of_strs : ∀ (ns : List Tx), Rps K F ((ns.map sx).map V.str) ns
  | [] => .nil
  | n :: ns => .cons rfl (Rps.of_strs ns)
end

/-! ### the heaps' steps -/
structure ExtM (M : Addr → Prop) (F H F' H' : Hp) : Prop where
  ff : Same F F'
  fh : Same F' H'
  hh : ∀ b o, ¬ M b → H b = some o → H' b = some o
  nwM : ∀ a, ¬ M a → F a = none → H a ≠ none → F' a = none
abbrev M0 : Addr → Prop := fun _ => False
abbrev Ext := ExtM M0
theorem Ext.hs {F H F' H' : Hp} (e : Ext F H F' H') : Same H H' := fun b o h => e.hh b o (fun z => z) h
theorem Ext.refl {F H : Hp} (h : Same F H) : Ext F H F H := ⟨Same.refl F, h, fun _ _ _ h => h, fun _ _ h _ => h⟩
theorem ExtM.nw {F H F' H' : Hp} (e : Ext F H F' H') (a : Addr) (h1 : F a = none) (h2 : H a ≠ none) : F' a = none := e.nwM a (fun z => z) h1 h2
theorem ExtM.trans {M : Addr → Prop} {F H F1 H1 F2 H2 : Hp} (a : ExtM M F H F1 H1) (b : Ext F1 H1 F2 H2) (hM : ∀ x, M x → H x ≠ none → H1 x ≠ none) : ExtM M F H F2 H2 :=
  ⟨a.ff.trans b.ff, b.fh, fun x o hx h => b.hs _ _ (a.hh x o hx h), fun x hx h1 h2 => b.nw x (a.nwM x hx h1 h2) (by
    by_cases hm : M x
    · exact hM x hm h2
    · intro z
      cases q : H x with
      | none => exact h2 q
      | some o => rw [a.hh x o hm q] at z; cases z)⟩
theorem Ext.trans {F H F1 H1 F2 H2 : Hp} (a : Ext F H F1 H1) (b : Ext F1 H1 F2 H2) : Ext F H F2 H2 := ExtM.trans a b fun _ z => z.elim
/-- a new frozen thing -/
theorem Ext.new {F H : Hp} (h : Same F H) {p : Addr} {o : HO} (hp : H p = none) : Ext F H (upd F p o) (upd H p o) := by
  have fp : F p = none := h.free hp
  refine ⟨fun b u e => ?_, fun b u e => ?_, fun b u _ e => ?_, fun b _ e ne => ?_⟩
  · rw [upd_ne (ne_of_none e fp)]; exact e
  · by_cases hb : b = p
    · subst hb; rw [upd_same] at e ⊢; exact e
    · rw [upd_ne hb] at e ⊢; exact h _ _ e
  · rw [upd_ne (ne_of_none e hp)]; exact e
  · rw [upd_ne (fun z => by subst z; exact ne hp)]; exact e
/-- a new thing that is kept apart -/
theorem Ext.apart {F H : Hp} (h : Same F H) {p : Addr} {o : HO} (hp : H p = none) : Ext F H F (upd H p o) :=
  ⟨Same.refl F, fun b u e => by rw [upd_ne (ne_of_none (h _ _ e) hp)]; exact h _ _ e, fun b u _ e => by rw [upd_ne (ne_of_none e hp)]; exact e, fun _ _ e _ => e⟩
theorem same_upd {F H : Hp} (h : Same F H) {p : Addr} {o : HO} (fp : F p = none) : Same F (upd H p o) := fun b u e => by
  rw [upd_ne (ne_of_none e fp)]; exact h _ _ e

/-! ### slots -/
/-- a thing of one's own: where it lies (fp), and what holds of it; F the frozen heap, H the whole one -/
structure Own where
  fp : List Addr
  ok : PySem.W.Frag → Hp → Hp → V → Prop
  stay : ∀ {K : PySem.W.Frag} {F F' H H' : Hp} {v : V}, Same F F' → (∀ b ∈ fp, ∀ o, H b = some o → H' b = some o) → ok K F H v → ok K F' H' v
  there : ∀ {K : PySem.W.Frag} {F H : Hp} {v : V}, ok K F H v → ∀ b ∈ fp, H b ≠ none
/-- a list of data -/
def ownL {α : Type} (i : Rep α) (a : Addr) (xs : List α) : Own where
  fp := [a]
  ok := fun K F H v => v = .ref a ∧ ∃ vs, H a = some (.lst vs) ∧ Paired (fun u x => i.rp K F u x) vs xs
  stay := fun s k ⟨e, vs, h, p⟩ => ⟨e, vs, k a (List.mem_singleton.mpr rfl) _ h, Paired.mapP p fun _ _ q => i.mono s q⟩
  there := fun ⟨_, vs, h, _⟩ b hb z => by rw [List.mem_singleton.mp hb, h] at z; cases z
inductive Slot : Type 1 where
  | no
  | val {α : Type} (i : Rep α) (x : α)
  | own (o : Own)
abbrev Slot.lst {α : Type} (i : Rep α) (a : Addr) (xs : List α) : Slot := .own (ownL i a xs)
abbrev vl {α : Type} [i : Rep α] (x : α) : Slot := .val i x
abbrev ls {α : Type} [i : Rep α] (a : Addr) (xs : List α) : Slot := .lst i a xs
/-- what comes out of a def: data, a new list, or a new thing of the asker's own -/
inductive Ret : Type 1 where
  | val {α : Type} (i : Rep α) (x : α)
  | new {α : Type} (i : Rep α) (xs : List α)
  | own (P : Own → Prop)
abbrev rv {α : Type} [i : Rep α] (x : α) : Ret := .val i x
abbrev rn {α : Type} [i : Rep α] (xs : List α) : Ret := .new i xs
structure Bs where
  F : Hp
  H : Hp
  M : Addr → Prop
/-- new since the entry, or handed over at it -/
def Bs.nw (B : Bs) (b : Addr) : Prop := B.H b = none ∨ B.M b
def SlotOk (K : PySem.W.Frag) (B : Bs) (F H : Hp) (ov : Option V) : Slot → Prop
  | .no => True
  | .val i x => ∃ v, ov = some v ∧ i.rp K F v x
  | .own o => ∃ v, ov = some v ∧ o.ok K F H v ∧ ∀ b ∈ o.fp, F b = none ∧ B.nw b
def Slot.isOwn : Slot → Bool
  | .own _ => true
  | _ => false
/-- own things lie apart -/
def Apart (Γ : List Slot) : Prop := ∀ (i j : Nat) o1 o2, i ≠ j → Γ[i]? = some (.own o1) → Γ[j]? = some (.own o2) → ∀ b ∈ o1.fp, b ∉ o2.fp
/-- the places of the frame, and what they hold -/
structure Lc (K : PySem.W.Frag) (B : Bs) (F H : Hp) (σ : L2.St) (Γ : List Slot) : Prop where
  ext : ExtM B.M B.F B.H F H
  there : ∀ x, B.M x → B.H x ≠ none → H x ≠ none
  len : σ.length = Γ.length
  ok : ∀ (i : Nat) s, Γ[i]? = some s → SlotOk K B F H (σ[i]?).join s
  ap : Apart Γ
section
variable {K : PySem.W.Frag} {B : Bs} {F H F' H' : Hp} {σ : L2.St} {Γ : List Slot} {α : Type} {i : Rep α}
theorem Lc.same (L : Lc K B F H σ Γ) : Same F H := L.ext.fh
theorem Lc.nw (L : Lc K B F H σ Γ) {b : Addr} (h : H b = none) : B.nw b := by
  by_cases hm : B.M b
  · exact .inr hm
  · refine .inl ?_
    cases q : B.H b with
    | none => rfl
    | some o => rw [L.ext.hh b o hm q] at h; cases h
theorem SlotOk.step {ov : Option V} {s : Slot} (e : Ext F H F' H') (h : SlotOk K B F H ov s) : SlotOk K B F' H' ov s := by
  cases s with
  | no => trivial
  | val i x => obtain ⟨v, e1, r⟩ := h; exact ⟨v, e1, i.mono e.ff r⟩
  | own o =>
    obtain ⟨v, e1, ok, f⟩ := h
    exact ⟨v, e1, o.stay e.ff (fun b _ u q => e.hs _ _ q) ok, fun b hb => ⟨e.nw b (f b hb).1 (o.there ok b hb), (f b hb).2⟩⟩
theorem Lc.step (L : Lc K B F H σ Γ) (e : Ext F H F' H') : Lc K B F' H' σ Γ :=
  ⟨L.ext.trans e L.there, fun x hx hb z => (by
    have := L.there x hx hb
    cases q : H x with
    | none => exact this q
    | some o => rw [e.hs _ _ q] at z; cases z), L.len, fun j s h => (L.ok j s h).step e, L.ap⟩
theorem slot_val {k : Nat} {x : α} (L : Lc K B F H σ Γ) (h : Γ[k]? = some (.val i x)) : ∃ v, σ[k]? = some (some v) ∧ i.rp K F v x := by
  obtain ⟨v, e, r⟩ := L.ok k _ h
  refine ⟨v, ?_, r⟩
  cases q : σ[k]? with
  | none => rw [q] at e; cases e
  | some o => rw [q] at e; rw [← e]; rfl
theorem slot_own {k : Nat} {o : Own} (L : Lc K B F H σ Γ) (h : Γ[k]? = some (.own o)) : ∃ v, σ[k]? = some (some v) ∧ o.ok K F H v ∧ ∀ b ∈ o.fp, F b = none ∧ B.nw b := by
  obtain ⟨v, e, r⟩ := L.ok k _ h
  refine ⟨v, ?_, r⟩
  cases q : σ[k]? with
  | none => rw [q] at e; cases e
  | some o => rw [q] at e; rw [← e]; rfl
theorem slot_lst {k : Nat} {a : Addr} {xs : List α} (L : Lc K B F H σ Γ) (h : Γ[k]? = some (.lst i a xs)) :
    ∃ vs, σ[k]? = some (some (.ref a)) ∧ F a = none ∧ B.nw a ∧ H a = some (.lst vs) ∧ Paired (fun u x => i.rp K F u x) vs xs := by
  obtain ⟨v, e, ⟨rfl, vs, h1, p⟩, f⟩ := slot_own L h
  exact ⟨vs, e, (f a (List.mem_singleton.mpr rfl)).1, (f a (List.mem_singleton.mpr rfl)).2, h1, p⟩
theorem get_set_join {σ : L2.St} {k j : Nat} {o : Option V} : ((σ.set k o)[j]?).join = if k = j ∧ j < σ.length then o else (σ[j]?).join := by
  by_cases h : k = j
  · subst h
    by_cases hl : k < σ.length
    · rw [List.getElem?_set_self hl, if_pos ⟨rfl, hl⟩]; rfl
    · rw [List.getElem?_eq_none (by simpa using hl), if_neg (fun z => hl z.2), List.getElem?_eq_none (by simpa using hl)]
  · rw [List.getElem?_set_ne h, if_neg (fun z => h z.1)]
theorem get_set_slot {Γ : List Slot} {k j : Nat} {o s : Slot} (h : (Γ.set k o)[j]? = some s) : (k = j ∧ j < Γ.length ∧ s = o) ∨ (k ≠ j ∧ Γ[j]? = some s) := by
  by_cases e : k = j
  · subst e
    have hl : k < Γ.length := by
      have := (List.getElem?_eq_some_iff.mp h).1
      simpa using this
    rw [List.getElem?_set_self hl] at h
    exact .inl ⟨rfl, hl, (Option.some.inj h).symm⟩
  · rw [List.getElem?_set_ne e] at h
    exact .inr ⟨e, h⟩
theorem Apart.put (A : Apart Γ) (k : Nat) {s : Slot} (hs : s.isOwn = false) : Apart (Γ.set k s) := fun i j o1 o2 hij h1 h2 => by
  rcases get_set_slot h1 with ⟨_, _, e⟩ | ⟨_, h1⟩
  · rw [← e] at hs; cases hs
  rcases get_set_slot h2 with ⟨_, _, e⟩ | ⟨_, h2⟩
  · rw [← e] at hs; cases hs
  exact A i j o1 o2 hij h1 h2
theorem Apart.putO (A : Apart Γ) (k : Nat) {o : Own} (h : ∀ (j : Nat) o', k ≠ j → Γ[j]? = some (.own o') → ∀ b ∈ o.fp, b ∉ o'.fp) : Apart (Γ.set k (.own o)) := fun i j o1 o2 hij h1 h2 b hb1 hb2 => by
  rcases get_set_slot h1 with ⟨k1, _, e⟩ | ⟨n1, h1⟩
  · cases e
    rcases get_set_slot h2 with ⟨k2, _, e⟩ | ⟨n2, h2⟩
    · exact hij (k1.symm.trans k2)
    · exact h j o2 n2 h2 b hb1 hb2
  · rcases get_set_slot h2 with ⟨k2, _, e⟩ | ⟨n2, h2⟩
    · cases e
      exact h i o1 n1 h1 b hb2 hb1
    · exact A i j o1 o2 hij h1 h2 b hb1 hb2
/-- a place is given something that owns nothing -/
theorem Lc.put (L : Lc K B F H σ Γ) (k : Nat) {ov : Option V} {s : Slot} (hs : s.isOwn = false) (ho : SlotOk K B F H ov s) : Lc K B F H (σ.set k ov) (Γ.set k s) := by
  refine ⟨L.ext, L.there, by simp [L.len], fun j t h => ?_, L.ap.put k hs⟩
  rw [get_set_join]
  rcases get_set_slot h with ⟨e1, e2, rfl⟩ | ⟨e1, h⟩
  · rw [if_pos ⟨e1, by rw [L.len]; exact e2⟩]; exact ho
  · rw [if_neg fun z => e1 z.1]; exact L.ok j t h
theorem Lc.putV (L : Lc K B F H σ Γ) (k : Nat) {v : V} {x : α} (r : i.rp K F v x) : Lc K B F H (σ.set k (some v)) (Γ.set k (.val i x)) := L.put k rfl ⟨v, rfl, r⟩
theorem Lc.putN (L : Lc K B F H σ Γ) (k : Nat) (o : Option V) : Lc K B F H (σ.set k o) (Γ.set k .no) := L.put k rfl trivial
theorem Lc.ne_own (L : Lc K B F H σ Γ) {b : Addr} (hb : H b = none) {j : Nat} {o : Own} (h : Γ[j]? = some (.own o)) : b ∉ o.fp := fun hm => by
  obtain ⟨v, _, ok, _⟩ := slot_own L h
  exact o.there ok b hm hb
/-- a place is given a new thing of its own -/
theorem Lc.putO (L : Lc K B F H σ Γ) (k : Nat) (e : Ext F H F' H') {o : Own} {v : V} (new : ∀ b ∈ o.fp, H b = none ∧ F' b = none) (ok : o.ok K F' H' v) : Lc K B F' H' (σ.set k (some v)) (Γ.set k (.own o)) := by
  have L' := L.step e
  refine ⟨L'.ext, L'.there, by simp [L.len], fun j t h => ?_, L.ap.putO k fun j o' _ h b hb => L.ne_own (new b hb).1 h⟩
  rw [get_set_join]
  rcases get_set_slot h with ⟨e1, e2, rfl⟩ | ⟨e1, h⟩
  · rw [if_pos ⟨e1, by rw [L.len]; exact e2⟩]
    exact ⟨v, rfl, ok, fun b hb => ⟨(new b hb).2, L.nw (new b hb).1⟩⟩
  · rw [if_neg fun z => e1 z.1]; exact L'.ok j t h
/-- a place is given a new list of its own -/
theorem Lc.putL (L : Lc K B F H σ Γ) (k : Nat) (e : Ext F H F' H') {a : Addr} {vs : List V} {xs : List α} (ha : H a = none) (fa : F' a = none) (h' : H' a = some (.lst vs)) (p : Paired (fun u x => i.rp K F' u x) vs xs) :
    Lc K B F' H' (σ.set k (some (.ref a))) (Γ.set k (.lst i a xs)) := L.putO k e (fun b hb => by rw [List.mem_singleton.mp hb]; exact ⟨ha, fa⟩) ⟨rfl, vs, h', p⟩
/-- the own thing of a place is changed -/
theorem Lc.updO (L : Lc K B F H σ Γ) {k : Nat} {o o' : Own} {v : V} (hk : Γ[k]? = some (.own o)) (hv : σ[k]? = some (some v)) (keep : ∀ b u, b ∉ o.fp → H b = some u → H' b = some u) (old : ∀ b ∈ o.fp, H' b ≠ none)
    (fp : ∀ b ∈ o'.fp, b ∈ o.fp ∨ H b = none) (ok : o'.ok K F H' v) : Lc K B F H' σ (Γ.set k (.own o')) := by
  obtain ⟨_, _, _, f⟩ := slot_own L hk
  have nfp : ∀ b u, F b = some u → b ∉ o.fp := fun b u q hb => by rw [(f b hb).1] at q; cases q
  refine ⟨⟨L.ext.ff, fun b u q => keep b u (nfp b u q) (L.same _ _ q), fun b u nb q => ?_, L.ext.nwM⟩, fun x hx hb => ?_, by simp [L.len], fun q t h => ?_, L.ap.putO k fun j o2 hj h b hb => ?_⟩
  · refine keep b u (fun hb => ?_) (L.ext.hh b u nb q)
    rcases (f b hb).2 with z | z
    · rw [z] at q; cases q
    · exact nb z
  · by_cases hm : x ∈ o.fp
    · exact old x hm
    · have := L.there x hx hb
      cases q : H x with
      | none => exact absurd q this
      | some u => rw [keep x u hm q]; exact fun z => nomatch z
  · rcases get_set_slot h with ⟨e1, e2, rfl⟩ | ⟨e1, hq⟩
    · subst e1
      rw [hv]
      refine ⟨v, rfl, ok, fun b hb => ?_⟩
      rcases fp b hb with z | z
      · exact f b z
      · exact ⟨L.same.free z, L.nw z⟩
    · have old' := L.ok q t hq
      cases t with
      | no => trivial
      | val i x => exact old'
      | own o2 =>
        obtain ⟨u, eu, ok2, f2⟩ := old'
        exact ⟨u, eu, o2.stay (Same.refl F) (fun b hb w q1 => keep b w (fun hb2 => L.ap k q o o2 e1 hk hq b hb2 hb) q1) ok2, f2⟩
  · rcases fp b hb with z | z
    · exact L.ap k j o o2 hj hk h b z
    · exact L.ne_own z h
/-- the own list of a place is changed -/
theorem Lc.updL (L : Lc K B F H σ Γ) {k : Nat} {a : Addr} {β : Type} {j : Rep β} {ys : List β} {vs' : List V} {xs' : List α} (hk : Γ[k]? = some (.lst j a ys)) (p : Paired (fun u x => i.rp K F u x) vs' xs') :
    Lc K B F (upd H a (.lst vs')) σ (Γ.set k (.lst i a xs')) := by
  obtain ⟨vs, ea, _⟩ := slot_lst L hk
  refine L.updO hk ea (fun b u hb q => ?_) (fun b hb => ?_) (fun b hb => .inl hb) ⟨rfl, vs', upd_same, p⟩
  · rw [upd_ne (fun z => hb (List.mem_singleton.mpr z))]; exact q
  · rw [List.mem_singleton.mp hb, upd_same]; exact fun z => nomatch z
end

/-! ### what a code's run asks, without a reading -/
section
variable {X : Cx} {σ : L2.St} {H : Hp}
def WE (X : Cx) (e : Expr) (σ : L2.St) (H : Hp) (Q : VK) : Prop := ∀ pins s, Inv X pins σ H s → wpAny (model X.prog X.w) X.A (eval e X.env) (EP X pins σ Q) X.xe s
def WT (X : Cx) (e : Expr) (σ : L2.St) (H : Hp) (Q : Bool → Hp → Prop) : Prop := ∀ pins s, Inv X pins σ H s → wpAny (model X.prog X.w) X.A (isTrue e X.env (eval e X.env)) (TP X pins σ Q) X.xe s
def WA (X : Cx) (es : List Expr) (σ : L2.St) (H : Hp) (Q : List V → Hp → Prop) : Prop := ∀ pos pins s, Inv X pins σ H s → wpAny (model X.prog X.w) X.A (spliced (backTo pos (starEach es X.env))) (AP X pins σ Q) X.xe s
def WP (X : Cx) (st : List Stmt) (D : Ends) (σ : L2.St) (H : Hp) : Prop := ∀ pins s, Inv X pins σ H s → wpAny (model X.prog X.w) X.A (execs st X.env) (SP X pins D) X.xe s
theorem peW {e : Expr} : PE X e (WE X e) := ⟨fun pins s _ _ _ I h => h pins s I⟩
theorem ptW {e : Expr} : PT X e (WT X e) := ⟨fun pins s _ _ _ I h => h pins s I⟩
theorem paW {es : List Expr} : PA X es (WA X es) := ⟨fun pos pins s _ _ _ I h => h pos pins s I⟩
theorem psW {st : List Stmt} : PSs X st (WP X st) := ⟨fun pins s _ _ _ I h => h pins s I⟩
theorem WE.of {e : Expr} {t : TE} {Q : VK} (p : PE X e t) (h : t σ H Q) : WE X e σ H Q := fun pins s I => p.run pins s σ H Q I h
theorem WT.of {e : Expr} {t : TT} {Q : Bool → Hp → Prop} (p : PT X e t) (h : t σ H Q) : WT X e σ H Q := fun pins s I => p.run pins s σ H Q I h
theorem WA.of {es : List Expr} {t : TA} {Q : List V → Hp → Prop} (p : PA X es t) (h : t σ H Q) : WA X es σ H Q := fun pos pins s I => p.run pos pins s σ H Q I h
theorem WP.of {st : List Stmt} {t : TS} {D : Ends} (p : PSs X st t) (h : t D σ H) : WP X st D σ H := fun pins s I => p.run pins s σ H D I h
theorem WP.cons {st : Stmt} {rest : List Stmt} {t : TS} {D : Ends} (p : PS X st t) (h : t { D with nx := fun σ' H' => WP X rest D σ' H' } σ H) : WP X (st :: rest) D σ H :=
  WP.of (pss_cons p psW) h
end

/-! ### the judgements -/
/-- what comes out: data, or a new thing; N: what counts as new -/
def ROk (K : PySem.W.Frag) (N : Addr → Prop) (F' H' : Hp) (v : V) : Ret → Prop
  | .val i x => i.rp K F' v x
  | .new i xs => ∃ a vs, v = .ref a ∧ N a ∧ F' a = none ∧ H' a = some (.lst vs) ∧ Paired (fun u x => i.rp K F' u x) vs xs
  | .own P => ∃ o, P o ∧ (∀ b ∈ o.fp, N b ∧ F' b = none) ∧ o.ok K F' H' v
/-- not there -/
abbrev Nw (H : Hp) : Addr → Prop := fun b => H b = none
theorem ROk.imp {K : PySem.W.Frag} {N N' : Addr → Prop} {F' H' : Hp} {v : V} {r : Ret} (h : ROk K N F' H' v r) (n : ∀ b, N b → N' b) : ROk K N' F' H' v r := by
  cases r with
  | val i x => exact h
  | new i xs => obtain ⟨a, vs, e, h1, h2⟩ := h; exact ⟨a, vs, e, n a h1, h2⟩
  | own P => obtain ⟨o, p, f, ok⟩ := h; exact ⟨o, p, fun b hb => ⟨n b (f b hb).1, (f b hb).2⟩, ok⟩
def EX (X : Cx) (Γ : List Slot) (e : Expr) (P : Ret → Prop) : Prop :=
  ∀ B F H σ Q, Lc X.K B F H σ Γ → (∀ r v F' H', P r → Ext F H F' H' → ROk X.K (Nw H) F' H' v r → Q v H') → WE X e σ H Q
def EV (X : Cx) (Γ : List Slot) (e : Expr) {α : Type} [i : Rep α] (x : α) : Prop :=
  ∀ B F H σ Q, Lc X.K B F H σ Γ → (∀ v F' H', Ext F H F' H' → i.rp X.K F' v x → Q v H') → WE X e σ H Q
/-- a new list -/
def EN (X : Cx) (Γ : List Slot) (e : Expr) {α : Type} [i : Rep α] (xs : List α) : Prop :=
  ∀ B F H σ Q, Lc X.K B F H σ Γ → (∀ a vs F' H', Ext F H F' H' → H a = none → F' a = none → H' a = some (.lst vs) → Paired (fun u x => i.rp X.K F' u x) vs xs → Q (.ref a) H') → WE X e σ H Q
def ET (X : Cx) (Γ : List Slot) (e : Expr) (b : Bool) : Prop :=
  ∀ B F H σ Q, Lc X.K B F H σ Γ → (∀ F' H', Ext F H F' H' → Q b H') → WT X e σ H Q
def VsOk (K : PySem.W.Frag) (F : Hp) : List V → List Slot → Prop
  | [], [] => True
  | v :: vs, .val i x :: A => i.rp K F v x ∧ VsOk K F vs A
  | _, _ => False
def EA (X : Cx) (Γ : List Slot) (es : List Expr) (A : List Slot) : Prop :=
  ∀ B F H σ Q, Lc X.K B F H σ Γ → (∀ vs F' H', Ext F H F' H' → VsOk X.K F' vs A → Q vs H') → WA X es σ H Q
theorem VsOk.mono {K : PySem.W.Frag} {F F' : Hp} (s : Same F F') : ∀ {vs : List V} {A : List Slot}, VsOk K F vs A → VsOk K F' vs A
  | [], [], _ => trivial
  | v :: vs, .val i x :: A, h => ⟨i.mono s h.1, VsOk.mono s h.2⟩
  | [], _ :: _, h => h.elim
  | _ :: _, [], h => h.elim
  | _ :: _, .no :: _, h => h.elim
  | _ :: _, .own _ :: _, h => h.elim
theorem VsOk.len {K : PySem.W.Frag} {F : Hp} : ∀ {vs : List V} {A : List Slot}, VsOk K F vs A → vs.length = A.length
  | [], [], _ => rfl
  | v :: vs, .val i x :: A, h => by rw [List.length_cons, List.length_cons, VsOk.len h.2]
  | [], _ :: _, h => h.elim
  | _ :: _, [], h => h.elim
  | _ :: _, .no :: _, h => h.elim
  | _ :: _, .own _ :: _, h => h.elim

/-! ### what a def promises -/
/-- an exception: its class by name, and the field that its __init__ sets (why is .no where there is none) -/
structure Exn where
  cls : Str
  fld : Str
  why : Slot
abbrev Spec := List Slot → (Ret → Prop) → (Exn → Prop) → Prop
def XOk (K : PySem.W.Frag) (H F' H' : Hp) (u : Value) (d : Option Addr) (x : Exn) : Prop :=
  ∃ C, u = .ref C ∧ PySem.W.nsIn K mainGlobals x.cls = some (some (.ref C)) ∧
    match x.why with
    | .no => d = none
    | .val i y => ∃ dx w, d = some dx ∧ H dx = none ∧ F' dx = none ∧ H' dx = some (.xd [(x.fld, w)]) ∧ i.rp K F' w y
    | .own _ => False
theorem XOk.old {K : PySem.W.Frag} {H0 H F' H' : Hp} {u : Value} {d : Option Addr} {x : Exn} (h : XOk K H F' H' u d x) (n : ∀ a, H a = none → H0 a = none) : XOk K H0 F' H' u d x := by
  obtain ⟨C, e1, e2, h⟩ := h
  refine ⟨C, e1, e2, ?_⟩
  obtain ⟨cls, fld, why⟩ := x
  cases why with
  | no => exact h
  | val i y =>
    obtain ⟨dx, w, e3, e4, h⟩ := h
    exact ⟨dx, w, e3, n _ e4, h⟩
  | own o => exact h
/-- the least wish that the context takes -/
def XW (X : Cx) : WX := fun cls d σ H => ∀ u s', XE X (fun c d' σ' H' => c = cls ∧ d' = d ∧ σ' = σ ∧ H' = H) u s' → X.xe u s'
theorem takesW {X : Cx} : Takes X (XW X) := fun u s' ⟨a, B, sI, pins, σ, H, cls, d, e, I, nb, up, sky, na, os, ag, h⟩ => h u s' ⟨a, B, sI, pins, σ, H, cls, d, e, I, nb, up, sky, na, os, ag, rfl, rfl, rfl, rfl⟩
theorem XW.of {X : Cx} {W : WX} (tk : Takes X W) {cls : Value} {d : Option Addr} {σ : L2.St} {H : Hp} (h : W cls d σ H) : XW X cls d σ H := fun u s' ⟨a, B, sI, pins, σ', H', cls', d', e, I, nb, up, sky, na, os, ag, e1, e2, e3, e4⟩ => by
  subst e1 e2 e3 e4
  exact tk u s' ⟨a, B, sI, pins, σ', H', cls', d', e, I, nb, up, sky, na, os, ag, h⟩
/-- arguments, own things among them -/
def VsOkO (K : PySem.W.Frag) (F H : Hp) : List V → List Slot → Prop
  | [], [] => True
  | v :: vs, .val i x :: A => i.rp K F v x ∧ VsOkO K F H vs A
  | v :: vs, .own o :: A => o.ok K F H v ∧ (∀ b ∈ o.fp, F b = none) ∧ VsOkO K F H vs A
  | _, _ => False
/-- where the own things among arguments lie -/
def MA (A : List Slot) : Addr → Prop := fun b => ∃ o, Slot.own o ∈ A ∧ b ∈ o.fp
theorem VsOkO.len {K : PySem.W.Frag} {F H : Hp} : ∀ {vs : List V} {A : List Slot}, VsOkO K F H vs A → vs.length = A.length
  | [], [], _ => rfl
  | v :: vs, .val i x :: A, h => by rw [List.length_cons, List.length_cons, VsOkO.len h.2]
  | v :: vs, .own o :: A, h => by rw [List.length_cons, List.length_cons, VsOkO.len h.2.2]
  | [], _ :: _, h => h.elim
  | _ :: _, [], h => h.elim
  | _ :: _, .no :: _, h => h.elim
theorem VsOk.toO {K : PySem.W.Frag} {F H : Hp} : ∀ {vs : List V} {A : List Slot}, VsOk K F vs A → VsOkO K F H vs A
  | [], [], _ => trivial
  | v :: vs, .val i x :: A, h => ⟨h.1, VsOk.toO h.2⟩
  | [], _ :: _, h => h.elim
  | _ :: _, [], h => h.elim
  | _ :: _, .no :: _, h => h.elim
  | _ :: _, .own _ :: _, h => h.elim
theorem VsOk.no {K : PySem.W.Frag} {F : Hp} : ∀ {vs : List V} {A : List Slot}, VsOk K F vs A → ∀ o, Slot.own o ∉ A
  | [], [], _, _, h => by cases h
  | v :: vs, .val i x :: A, h, o, m => by
    rcases List.mem_cons.mp m with z | z
    · cases z
    · exact VsOk.no h.2 o z
  | [], _ :: _, h, _, _ => h.elim
  | _ :: _, [], h, _, _ => h.elim
  | _ :: _, .no :: _, h, _, _ => h.elim
  | _ :: _, .own _ :: _, h, _, _ => h.elim
theorem VsOk.apart {K : PySem.W.Frag} {F : Hp} {vs : List V} {A : List Slot} (h : VsOk K F vs A) : Apart A := fun i j o1 o2 _ h1 _ => absurd (List.mem_of_getElem? h1) (h.no o1)
theorem VsOk.ma {K : PySem.W.Frag} {F : Hp} {vs : List V} {A : List Slot} (h : VsOk K F vs A) {b : Addr} (m : MA A b) : False := by
  obtain ⟨o, h1, _⟩ := m
  exact h.no o h1
/-- behind a call that was handed new things -/
theorem Ext.thenM {M : Addr → Prop} {F H F1 H1 F2 H2 : Hp} (a : Ext F H F1 H1) (b : ExtM M F1 H1 F2 H2) (n : ∀ x, M x → H x = none) : Ext F H F2 H2 :=
  ⟨a.ff.trans b.ff, b.fh, fun x o _ h => b.hh x o (fun m => by rw [n x m] at h; cases h) (a.hs x o h), fun x _ h1 h2 => b.nwM x (fun m => h2 (n x m)) (a.nw x h1 h2) (by
    cases q : H x with
    | none => exact absurd q h2
    | some o => rw [a.hs x o q]; exact fun z => nomatch z)⟩
def spOf (K : PySem.W.Frag) (S : Spec) : Sp := fun vs H Q E => ∃ F A, Same F H ∧ VsOkO K F H vs A ∧ Apart A ∧
  S A (fun r => ∀ v F' H', ExtM (MA A) F H F' H' → ROk K (Bs.nw ⟨F, H, MA A⟩) F' H' v r → Q v H') (fun x => ∀ u d F' H', ExtM (MA A) F H F' H' → XOk K H F' H' u d x → E u d H')
/-- the def of a name keeps its promise -/
structure Has (P : Program) (w : World) (K : PySem.W.Frag) (mg : Str → Option Value) (base : Heap) (k : Nat) (n : Str) (ps : List Str) (S : Spec) : Prop where
  ex : ∃ f fd, mg n = some (.ref f) ∧ PySem.W.keepIn K (.ref f) = true ∧ Binds K fd ps [] ∧ FnOk P w K mg base (L2.CX P w) k f fd ps (spOf K S)

/-! ### statements -/
structure SE where
  nx : List Slot → Prop
  rt : Ret → Prop
  bk : List Slot → Prop
  ct : List Slot → Prop
  ex : List Slot → Exn → Prop
/-- the ends of a def's body -/
abbrev fin (Q : Ret → Prop) : SE := ⟨fun _ => Q (.val repUnit ()), Q, fun _ => False, fun _ => False, fun _ _ => False⟩
abbrev finX (Q : Ret → Prop) (R : Exn → Prop) : SE := ⟨fun _ => Q (.val repUnit ()), Q, fun _ => False, fun _ => False, fun _ => R⟩
structure ED (X : Cx) (B : Bs) (F0 : Hp) (E : SE) (D : Ends) : Prop where
  nx : ∀ F H σ Γ, Same F0 F → E.nx Γ → Lc X.K B F H σ Γ → D.nx σ H
  rt : ∀ r v F H, E.rt r → ExtM B.M B.F B.H F H → ROk X.K B.nw F H v r → D.rt v H
  bk : ∀ F H σ Γ, Same F0 F → E.bk Γ → Lc X.K B F H σ Γ → D.bk σ H
  ct : ∀ F H σ Γ, Same F0 F → E.ct Γ → Lc X.K B F H σ Γ → D.ct σ H
  ex : ∀ F H F2 H2 σ Γ x u d, Same F0 F → E.ex Γ x → Lc X.K B F H σ Γ → Ext F H F2 H2 → XOk X.K H F2 H2 u d x → XW X u d σ H2
theorem ED.weak {X : Cx} {B : Bs} {F0 F1 : Hp} {E : SE} {D : Ends} (h : ED X B F0 E D) (s : Same F0 F1) : ED X B F1 E D :=
  ⟨fun F H σ Γ q => h.nx F H σ Γ (s.trans q), h.rt, fun F H σ Γ q => h.bk F H σ Γ (s.trans q), fun F H σ Γ q => h.ct F H σ Γ (s.trans q), fun F H F2 H2 σ Γ x u d q => h.ex F H F2 H2 σ Γ x u d (s.trans q)⟩
def ST (X : Cx) (sts : List Stmt) (Γ : List Slot) (E : SE) : Prop :=
  ∀ B F H σ D, Lc X.K B F H σ Γ → ED X B F E D → WP X sts D σ H
end Tw

namespace Tw
open PySem PySem.Spec PyProof.Rows L2 TL

abbrev tx (s : String) : Tx := s.toList.map Char.toNat
theorem sl_small {n : Nat} (h : n ≤ 1000) : n ≤ sizeLine := Nat.le_trans h (by decide)
theorem sx_tx (s : String) : Str.ofString s = sx (tx s) := ext_tl (by rw [tl_ofString]; rfl)

section
variable {X : Cx} {Γ : List Slot} {α β γ : Type} {i : Rep α} {j : Rep β} {l : Rep γ} {pos p : Pos} {e a b c : Expr} {es : List Expr}

/-! ### passing from one to another -/
theorem ev_of_ex {x : α} (h : EX X Γ e fun r => r = .val i x) : EV X Γ e x := fun B F H σ Q L q =>
  h B F H σ Q L fun r v F' H' er ex ok => by subst er; exact q v F' H' ex ok
theorem en_of_ex {xs : List α} (h : EX X Γ e fun r => r = .new i xs) : EN X Γ e xs := fun B F H σ Q L q =>
  h B F H σ Q L fun r v F' H' er ex ok => by
    subst er
    obtain ⟨a, vs, rfl, h1, h2, h3, h4⟩ := ok
    exact q a vs F' H' ex h1 h2 h3 h4
theorem ev_of_en {xs : List α} (h : EN X Γ e xs) : EV X Γ e xs := fun B F H σ Q L q =>
  h B F H σ Q L fun a vs F' H' ex ha fa h' p => by
    have sm : Same F' (upd F' a (.lst vs)) := fun b u e => by rw [upd_ne (ne_of_none e fa)]; exact e
    refine q (.ref a) (upd F' a (.lst vs)) H' ⟨ex.ff.trans sm, fun b u e => ?_, ex.hh, fun b _ h1 h2 => ?_⟩ ⟨a, vs, rfl, upd_same, Paired.mapP p fun _ _ q => i.mono sm q⟩
    · by_cases hb : b = a
      · subst hb; rw [upd_same] at e; rw [← e]; exact h'
      · rw [upd_ne hb] at e; exact ex.fh _ _ e
    · rw [upd_ne (fun z => by subst z; exact h2 ha)]; exact ex.nw b h1 h2
theorem ex_of_ev {x : α} {P : Ret → Prop} (h : EV X Γ e x) (hp : P (.val i x)) : EX X Γ e P := fun B F H σ Q L q =>
  h B F H σ Q L fun v F' H' ex r => q (.val i x) v F' H' hp ex r
theorem ex_of_en {xs : List α} {P : Ret → Prop} (h : EN X Γ e xs) (hp : P (.new i xs)) : EX X Γ e P := fun B F H σ Q L q =>
  h B F H σ Q L fun a vs F' H' ex ha fa h' p => q (.new i xs) (.ref a) F' H' hp ex ⟨a, vs, rfl, ha, fa, h', p⟩
theorem ev_eq {x y : α} (h : EV X Γ e x) (q : x = y) : EV X Γ e y := q ▸ h
theorem en_eq {x y : List α} (h : EN X Γ e x) (q : x = y) : EN X Γ e y := q ▸ h
theorem et_eq {x y : Bool} (h : ET X Γ e x) (q : x = y) : ET X Γ e y := q ▸ h
theorem et_val {k : Bool} (h : EV X Γ e k) (he : ∀ whole, isTrue e X.env whole = (do let v ← whole; standAt e.pos; holding [v] (truthy v)) := by intro _; rfl) : ET X Γ e k := fun B F H σ Q L q =>
  WT.of (pt_val peW he) (h B F H σ _ L fun v F' H' ex r => ⟨k, r, q F' H' ex⟩)

/-! ### names, constants -/
theorem ev_var (k : Nat) {n : Str} {x : α} (hN : X.N[k]? = some n := by rfl) (hv : Vis X.env.scope n := by first | exact Or.inl rfl | exact Or.inr (Or.inl rfl) | exact Or.inr (Or.inr rfl)) (hd : (n == ("__debug__" : Str)) = false := by decide)
    (hcd : (n == ("__classdict__" : Str)) = false := by decide) (hg : Γ[k]? = some (.val i x) := by rfl) : EV X Γ (.Name n pos) x := fun B F H σ Q L q => by
  obtain ⟨v, e1, r⟩ := slot_val L hg
  exact WE.of (pe_var hN hv hd hcd) ⟨v, e1, q v F H (Ext.refl L.same) r⟩
theorem ev_int {z : Int} {k} : EV X Γ (.Constant (.int z) k pos) z := fun B F H σ Q L q => WE.of pe_int (q _ F H (Ext.refl L.same) rfl)
theorem ev_bl {z : Bool} {k} : EV X Γ (.Constant (.bool z) k pos) z := fun B F H σ Q L q => WE.of pe_bl (q _ F H (Ext.refl L.same) rfl)
theorem ev_non {k} : EV X Γ (.Constant .none k pos) () := fun B F H σ Q L q => WE.of pe_non (q _ F H (Ext.refl L.same) rfl)
theorem ev_nonO {k} : EV X Γ (.Constant .none k pos) (none : Option α) := fun B F H σ Q L q => WE.of pe_non (q _ F H (Ext.refl L.same) rfl)
theorem ev_some {x : α} (h : EV X Γ e x) : EV X Γ e (some x) := fun B F H σ Q L q => h B F H σ Q L fun v F' H' ex r => q v F' H' ex r
theorem ev_str (s : String) {k} : EV X Γ (.Constant (.str (Str.ofString s)) k pos) (tx s) := fun B F H σ Q L q => WE.of pe_str (q _ F H (Ext.refl L.same) (congrArg V.str (sx_tx s)))
theorem ev_gint {n : Str} {z : Int} {t : Tok} (hm : X.mg n = some (.int z t)) (hg : Gl X n := by rfl) (hd : (n == ("__debug__" : Str)) = false := by decide) : EV X Γ (.Name n pos) z := fun B F H σ Q L q =>
  WE.of (pe_glob (v := .int z) hg hm ⟨t, rfl⟩ hd) (q _ F H (Ext.refl L.same) rfl)
theorem ev_gstr {n : Str} (s : String) {t : Tok} (hm : X.mg n = some (.str (Str.ofString s) t)) (hg : Gl X n := by rfl) (hd : (n == ("__debug__" : Str)) = false := by decide) : EV X Γ (.Name n pos) (tx s) := fun B F H σ Q L q =>
  WE.of (pe_glob (v := .str (Str.ofString s)) hg hm ⟨t, rfl⟩ hd) (q _ F H (Ext.refl L.same) (congrArg V.str (sx_tx s)))

/-! ### operators by values -/
/-- the largest rule of an operation -/
def rW (X : Cx) (f : Value → Value → Sem Value) : R2 := fun x y H Q => ∀ pins s σ v u, Inv X pins σ H s → RelV x v → RelV y u → wpAny (model X.prog X.w) X.A (f v u) (EP X pins σ Q) X.xe s
theorem opW {f : Value → Value → Sem Value} : OpR X f (rW X f) := fun pins s σ H x y v u Q I r1 r2 h => h pins s σ v u I r1 r2
/-- a binary operation on x, y gives z -/
def OB (X : Cx) (f : Value → Value → Sem Value) {α β γ : Type} [i : Rep α] [j : Rep β] [l : Rep γ] (x : α) (y : β) (z : γ) : Prop :=
  ∀ F H v u Q, Same F H → i.rp X.K F v x → j.rp X.K F u y → (∀ w F' H', Ext F H F' H' → l.rp X.K F' w z → Q w H') → rW X f v u H Q
theorem ob_flat {f : Value → Value → Sem Value} {x : α} {y : β} {z : γ} {r : R2} (o : OpR X f r)
    (h : ∀ F H v u Q, Same F H → i.rp X.K F v x → j.rp X.K F u y → (∀ w, l.rp X.K F w z → Q w H) → r v u H Q) : OB X f x y z :=
  fun F H v u Q s r1 r2 q pins s' σ v' u' I rv ru => o pins s' σ H v u v' u' Q I rv ru (h F H v u Q s r1 r2 fun w hw => q w F H (Ext.refl s) hw)
theorem ev_bin {op : Operator} {x : α} {y : β} {z : γ} (o : OB X (binaryOp op) x y z) (ha : EV X Γ a x) (hb : EV X Γ b y) : EV X Γ (.BinOp a op b pos) z := fun B F H σ Q L q =>
  WE.of (pe_op opW peW peW) (ha B F H σ _ L fun v F1 H1 e1 r1 => hb B F1 H1 σ _ (L.step e1) fun u F2 H2 e2 r2 =>
    o F2 H2 v u Q (L.step (e1.trans e2)).same (i.mono e2.ff r1) r2 fun w F3 H3 e3 r3 => q w F3 H3 ((e1.trans e2).trans e3) r3)
theorem ev_cmp {op : CmpOp} {x : α} {y : β} {z : Bool} (o : OB X (compareOp op) x y z) (ha : EV X Γ a x) (hb : EV X Γ b y) (hm : behindInMarks op b = false := by first | exact nomark _ | rfl) : EV X Γ (.Compare a [op] [b] pos) z := fun B F H σ Q L q =>
  WE.of (pe_cmpR opW peW peW hm) (ha B F H σ _ L fun v F1 H1 e1 r1 => hb B F1 H1 σ _ (L.step e1) fun u F2 H2 e2 r2 =>
    o F2 H2 v u Q (L.step (e1.trans e2)).same (i.mono e2.ff r1) r2 fun w F3 H3 e3 r3 => q w F3 H3 ((e1.trans e2).trans e3) r3)
theorem et_cmp {op : CmpOp} {x : α} {y : β} {z : Bool} (o : OB X (compareOp op) x y z) (ha : EV X Γ a x) (hb : EV X Γ b y) (hm : behindInMarks op b = false := by first | exact nomark _ | rfl) : ET X Γ (.Compare a [op] [b] pos) z := fun B F H σ Q L q =>
  WT.of (pt_cmpR opW peW peW hm) (ha B F H σ _ L fun v F1 H1 e1 r1 => hb B F1 H1 σ _ (L.step e1) fun u F2 H2 e2 r2 =>
    o F2 H2 v u _ (L.step (e1.trans e2)).same (i.mono e2.ff r1) r2 fun w F3 H3 e3 r3 => ⟨z, r3, q F3 H3 ((e1.trans e2).trans e3)⟩)
/-- a < b < c -/
theorem ev_chain {op op' : CmpOp} {x : α} {y : β} {w : γ} {k k' : Bool} (o : OB X (compareOp op) x y k) (o' : k = true → OB X (compareOp op') y w k') (ha : EV X Γ a x) (hb : EV X Γ b y) (hc : k = true → EV X Γ c w)
    (hm : lastMarks [op, op'] [b, c] = false := by with_unfolding_all rfl) : EV X Γ (.Compare a [op, op'] [b, c] pos) (k && k') := fun B F H σ Q L q =>
  WE.of (pe_chain opW opW peW peW peW hm) (ha B F H σ _ L fun v F1 H1 e1 r1 => hb B F1 H1 σ _ (L.step e1) fun u F2 H2 e2 r2 =>
    o F2 H2 v u _ (L.step (e1.trans e2)).same (i.mono e2.ff r1) r2 fun z F3 H3 e3 r3 => ⟨k, r3, by
      have e123 := (e1.trans e2).trans e3
      cases k with
      | false => exact q _ F3 H3 e123 rfl
      | true => exact hc rfl B F3 H3 σ _ (L.step e123) fun t F4 H4 e4 r4 => o' rfl F4 H4 u t Q (L.step (e123.trans e4)).same (j.mono (e3.trans e4).ff r2) r4 fun w F5 H5 e5 r5 => q w F5 H5 ((e123.trans e4).trans e5) (by rw [Bool.true_and]; exact r5)⟩)
theorem et_chain {op op' : CmpOp} {x : α} {y : β} {w : γ} {k k' : Bool} (o : OB X (compareOp op) x y k) (o' : k = true → OB X (compareOp op') y w k') (ha : EV X Γ a x) (hb : EV X Γ b y) (hc : k = true → EV X Γ c w)
    (hm : lastMarks [op, op'] [b, c] = false := by with_unfolding_all rfl) : ET X Γ (.Compare a [op, op'] [b, c] pos) (k && k') := fun B F H σ Q L q =>
  WT.of (pt_chain opW opW peW peW peW hm) (ha B F H σ _ L fun v F1 H1 e1 r1 => hb B F1 H1 σ _ (L.step e1) fun u F2 H2 e2 r2 =>
    o F2 H2 v u _ (L.step (e1.trans e2)).same (i.mono e2.ff r1) r2 fun z F3 H3 e3 r3 => ⟨k, r3, by
      have e123 := (e1.trans e2).trans e3
      cases k with
      | false => exact ⟨false, rfl, q F3 H3 e123⟩
      | true => exact hc rfl B F3 H3 σ _ (L.step e123) fun t F4 H4 e4 r4 => o' rfl F4 H4 u t _ (L.step (e123.trans e4)).same (j.mono (e3.trans e4).ff r2) r4 fun w F5 H5 e5 r5 => ⟨k', r5, by rw [Bool.true_and] at q; exact q F5 H5 ((e123.trans e4).trans e5)⟩⟩)

/-! ### whole numbers -/
theorem ob_I {f : Value → Value → Sem Value} {C : Int → Int → Prop} {g : Int → Int → Int} {x y : Int} (o : OpR X f (rI C fun i j => .int (g i j))) (h : C x y) : OB X f x y (g x y) :=
  ob_flat o fun F H v u Q s r1 r2 q => ⟨x, y, r1, r2, h, q _ rfl⟩
theorem ob_I0 {f : Value → Value → Sem Value} {g : Int → Int → Int} {x y : Int} (o : OpR X f (rI0 fun i j => .int (g i j))) : OB X f x y (g x y) :=
  ob_flat o fun F H v u Q s r1 r2 q => ⟨x, y, r1, r2, q _ rfl⟩
theorem ob_B0 {f : Value → Value → Sem Value} {g : Int → Int → Bool} {x y : Int} (o : OpR X f (rI0 fun i j => .bl (g i j))) : OB X f x y (g x y) :=
  ob_flat o fun F H v u Q s r1 r2 q => ⟨x, y, r1, r2, q _ rfl⟩
theorem o_add {x y : Int} : OB X (binaryOp .Add) x y (x + y) := ob_I0 op_add
theorem o_sub {x y : Int} : OB X (binaryOp .Sub) x y (x - y) := ob_I0 op_sub
theorem o_mul {x y : Int} (h : CMul x y) : OB X (binaryOp .Mult) x y (x * y) := ob_I op_mul h
theorem o_mod {x y : Int} (h : 0 < y) : OB X (binaryOp .Mod) x y (x % y) := ob_I op_mod h
theorem o_div {x y : Int} (h : CDivW x y) : OB X (binaryOp .FloorDiv) x y (x / y) := ob_I op_fdivW h
theorem o_lt {x y : Int} : OB X (compareOp .Lt) x y (decide (x < y)) := ob_B0 op_lt
theorem o_le {x y : Int} : OB X (compareOp .LtE) x y (decide (x ≤ y)) := ob_B0 op_le
theorem o_gt {x y : Int} : OB X (compareOp .Gt) x y (decide (y < x)) := ob_B0 op_gt
theorem o_ge {x y : Int} : OB X (compareOp .GtE) x y (decide (y ≤ x)) := ob_B0 op_ge
theorem o_eq {x y : Int} : OB X (compareOp .Eq) x y (decide (x = y)) := ob_flat op_eq fun F H v u Q s r1 r2 q => by
  obtain rfl : v = .int x := r1
  obtain rfl : u = .int y := r2
  exact ⟨rfl, q _ (show V.bl _ = V.bl _ by rw [dec_int, Bool.beq_eq_decide_eq])⟩
theorem o_ne {x y : Int} : OB X (compareOp .NotEq) x y (!decide (x = y)) := ob_flat op_ne fun F H v u Q s r1 r2 q => by
  obtain rfl : v = .int x := r1
  obtain rfl : u = .int y := r2
  exact ⟨rfl, q _ (show V.bl _ = V.bl _ by rw [dec_int, Bool.beq_eq_decide_eq])⟩
theorem dec_sx {x y : Tx} : decide (V.str (sx x) = V.str (sx y)) = decide (x = y) := by
  by_cases h : x = y
  · subst h; rw [decide_eq_true rfl, decide_eq_true rfl]
  · rw [decide_eq_false h, decide_eq_false fun z => h (sx_inj (V.str.inj z))]
theorem o_eqS {x y : Tx} : OB X (compareOp .Eq) x y (decide (x = y)) := ob_flat op_eq fun F H v u Q s r1 r2 q => by
  obtain rfl : v = .str (sx x) := r1
  obtain rfl : u = .str (sx y) := r2
  exact ⟨rfl, q _ (show V.bl _ = V.bl _ by rw [dec_sx])⟩
theorem o_neS {x y : Tx} : OB X (compareOp .NotEq) x y (!decide (x = y)) := ob_flat op_ne fun F H v u Q s r1 r2 q => by
  obtain rfl : v = .str (sx x) := r1
  obtain rfl : u = .str (sx y) := r2
  exact ⟨rfl, q _ (show V.bl _ = V.bl _ by rw [dec_sx])⟩
theorem o_neB {x y : Bool} : OB X (compareOp .NotEq) x y (!decide (x = y)) := ob_flat op_ne fun F H v u Q s r1 r2 q => by
  obtain rfl : v = .bl x := r1
  obtain rfl : u = .bl y := r2
  exact ⟨rfl, q _ (show V.bl _ = V.bl _ by rw [dec_bl, Bool.beq_eq_decide_eq])⟩
theorem o_eqB {x y : Bool} : OB X (compareOp .Eq) x y (decide (x = y)) := ob_flat op_eq fun F H v u Q s r1 r2 q => by
  obtain rfl : v = .bl x := r1
  obtain rfl : u = .bl y := r2
  exact ⟨rfl, q _ (show V.bl _ = V.bl _ by rw [dec_bl, Bool.beq_eq_decide_eq])⟩
theorem o_addS {x y : Tx} (h : x.length + y.length ≤ sizeLine) : OB X (binaryOp .Add) x y (x ++ y) := ob_flat op_add_str fun F H v u Q s r1 r2 q => by
  obtain rfl : v = .str (sx x) := r1
  obtain rfl : u = .str (sx y) := r2
  exact ⟨_, _, rfl, rfl, by rw [sx_len, sx_len]; exact h, q _ (by rw [sx_app]; rfl)⟩
theorem ev_neg {x : Int} (h : EV X Γ a x) : EV X Γ (.UnaryOp .USub a pos) (-x) := fun B F H σ Q L q =>
  WE.of (pe_un un_neg peW) (h B F H σ _ L fun v F1 H1 e1 r1 => ⟨x, r1, q _ F1 H1 e1 rfl⟩)

/-! ### and, or, not, if -/
theorem et_not {k : Bool} (h : ET X Γ a k) : ET X Γ (.UnaryOp .Not a pos) (!k) := fun B F H σ Q L q =>
  WT.of (pt_not ptW) (h B F H σ _ L fun F1 H1 e1 => q F1 H1 e1)
theorem ev_not {k : Bool} (h : EV X Γ a k) : EV X Γ (.UnaryOp .Not a pos) (!k) := fun B F H σ Q L q =>
  WE.of (pe_not peW) (h B F H σ _ L fun v F1 H1 e1 r1 => ⟨k, r1, q _ F1 H1 e1 rfl⟩)
/-- a test whatever its whole is -/
def WW (X : Cx) (e : Expr) (σ : L2.St) (H : Hp) (Q : Bool → Hp → Prop) : Prop := ∀ whole pins s, Inv X pins σ H s → wpAny (model X.prog X.w) X.A (isTrue e X.env whole) (TP X pins σ Q) X.xe s
theorem pwW : PW X e (WW X e) := ⟨fun whole pins s _ _ _ I h => h whole pins s I⟩
def EW (X : Cx) (Γ : List Slot) (e : Expr) (k : Bool) : Prop := ∀ B F H σ Q, Lc X.K B F H σ Γ → (∀ F' H', Ext F H F' H' → Q k H') → WW X e σ H Q
theorem WW.of {t : TT} {σ : L2.St} {H : Hp} {Q : Bool → Hp → Prop} (p : PW X e t) (h : t σ H Q) : WW X e σ H Q := fun whole pins s I => p.run whole pins s σ H Q I h
theorem et_w {k : Bool} (h : EW X Γ e k) : ET X Γ e k := fun B F H σ Q L q => WT.of (PW.pt pwW) (h B F H σ Q L q)
theorem ew_and1 {k : Bool} (h : ET X Γ a k) : EW X Γ (.BoolOp .And [a] pos) k := fun B F H σ Q L q => WW.of (pw_and1 ptW) (h B F H σ Q L q)
theorem ew_or1 {k : Bool} (h : ET X Γ a k) : EW X Γ (.BoolOp .Or [a] pos) k := fun B F H σ Q L q => WW.of (pw_or1 ptW) (h B F H σ Q L q)
theorem ew_and {k m : Bool} (ha : ET X Γ a k) (hb : k = true → EW X Γ (.BoolOp .And (b :: es) pos) m) : EW X Γ (.BoolOp .And (a :: b :: es) pos) (k && m) := fun B F H σ Q L q =>
  WW.of (pw_and ptW pwW) (ha B F H σ _ L fun F1 H1 e1 => by
    cases k with
    | true => exact hb rfl B F1 H1 σ Q (L.step e1) fun F2 H2 e2 => by rw [Bool.true_and] at q; exact q F2 H2 (e1.trans e2)
    | false => exact q F1 H1 e1)
theorem ew_or {k m : Bool} (ha : ET X Γ a k) (hb : k = false → EW X Γ (.BoolOp .Or (b :: es) pos) m) : EW X Γ (.BoolOp .Or (a :: b :: es) pos) (k || m) := fun B F H σ Q L q =>
  WW.of (pw_or ptW pwW) (ha B F H σ _ L fun F1 H1 e1 => by
    cases k with
    | false => exact hb rfl B F1 H1 σ Q (L.step e1) fun F2 H2 e2 => by rw [Bool.false_or] at q; exact q F2 H2 (e1.trans e2)
    | true => exact q F1 H1 e1)
theorem et_and {k m : Bool} (ha : ET X Γ a k) (hb : k = true → ET X Γ b m) : ET X Γ (.BoolOp .And [a, b] pos) (k && m) := et_w (ew_and ha fun h => ew_and1 (hb h))
theorem et_or {k m : Bool} (ha : ET X Γ a k) (hb : k = false → ET X Γ b m) : ET X Γ (.BoolOp .Or [a, b] pos) (k || m) := et_w (ew_or ha fun h => ew_or1 (hb h))
theorem et_and3 {k m n : Bool} (ha : ET X Γ a k) (hb : k = true → ET X Γ b m) (hc : k = true → m = true → ET X Γ c n) : ET X Γ (.BoolOp .And [a, b, c] pos) (k && (m && n)) := et_w (ew_and ha fun h => ew_and (hb h) fun h2 => ew_and1 (hc h h2))
theorem et_or3 {k m n : Bool} (ha : ET X Γ a k) (hb : k = false → ET X Γ b m) (hc : k = false → m = false → ET X Γ c n) : ET X Γ (.BoolOp .Or [a, b, c] pos) (k || (m || n)) := et_w (ew_or ha fun h => ew_or (hb h) fun h2 => ew_or1 (hc h h2))
/-- .. as values -/
theorem ev_one {op} {x : α} (h : EV X Γ a x) : EV X Γ (.BoolOp op [a] pos) x := fun B F H σ Q L q => WE.of (pe_one peW) (h B F H σ Q L q)
theorem ev_and {k m : Bool} (ha : EV X Γ a k) (hb : k = true → EV X Γ (.BoolOp .And (b :: es) pos) m) : EV X Γ (.BoolOp .And (a :: b :: es) pos) (k && m) := fun B F H σ Q L q =>
  WE.of (pe_and peW peW) (ha B F H σ _ L fun v F1 H1 e1 r1 => ⟨k, r1, by
    cases k with
    | true => exact hb rfl B F1 H1 σ Q (L.step e1) fun v F2 H2 e2 r2 => by rw [Bool.true_and] at q; exact q v F2 H2 (e1.trans e2) r2
    | false => exact q _ F1 H1 e1 rfl⟩)
theorem ev_or {k m : Bool} (ha : EV X Γ a k) (hb : k = false → EV X Γ (.BoolOp .Or (b :: es) pos) m) : EV X Γ (.BoolOp .Or (a :: b :: es) pos) (k || m) := fun B F H σ Q L q =>
  WE.of (pe_or peW peW) (ha B F H σ _ L fun v F1 H1 e1 r1 => ⟨k, r1, by
    cases k with
    | false => exact hb rfl B F1 H1 σ Q (L.step e1) fun v F2 H2 e2 r2 => by rw [Bool.false_or] at q; exact q v F2 H2 (e1.trans e2) r2
    | true => exact q _ F1 H1 e1 rfl⟩)
theorem ev_and2 {k m : Bool} (ha : EV X Γ a k) (hb : k = true → EV X Γ b m) : EV X Γ (.BoolOp .And [a, b] pos) (k && m) := ev_and ha fun h => ev_one (hb h)
theorem ev_or2 {k m : Bool} (ha : EV X Γ a k) (hb : k = false → EV X Γ b m) : EV X Γ (.BoolOp .Or [a, b] pos) (k || m) := ev_or ha fun h => ev_one (hb h)
theorem ev_ifExp {k : Bool} {x y : α} (hc : ET X Γ c k) (ha : k = true → EV X Γ a x) (hb : k = false → EV X Γ b y) : EV X Γ (.IfExp c a b pos) (if k then x else y) := fun B F H σ Q L q =>
  WE.of (pe_ifExp ptW peW peW) (hc B F H σ _ L fun F1 H1 e1 => by
    cases k with
    | true => exact ha rfl B F1 H1 σ Q (L.step e1) fun v F2 H2 e2 r2 => q v F2 H2 (e1.trans e2) r2
    | false => exact hb rfl B F1 H1 σ Q (L.step e1) fun v F2 H2 e2 r2 => q v F2 H2 (e1.trans e2) r2)

/-! ### arguments, displays -/
theorem ea_nil : EA X Γ [] [] := fun B F H σ Q L q => WA.of pa_nil (q [] F H (Ext.refl L.same) trivial)
theorem ea_cons {x : α} {A : List Slot} (h : EV X Γ e x) (hr : EA X Γ es A) (hs : starEach (e :: es) X.env = (false, eval e X.env) :: starEach es X.env := by rfl) : EA X Γ (e :: es) (.val i x :: A) := fun B F H σ Q L q =>
  WA.of (pa_cons peW paW hs) (h B F H σ _ L fun v F1 H1 e1 r1 => hr B F1 H1 σ _ (L.step e1) fun vs F2 H2 e2 r2 => q (v :: vs) F2 H2 (e1.trans e2) ⟨i.mono e2.ff r1, r2⟩)
/-- like things in a row -/
def EAs (X : Cx) (Γ : List Slot) (es : List Expr) {α : Type} [i : Rep α] (xs : List α) : Prop :=
  ∀ B F H σ Q, Lc X.K B F H σ Γ → (∀ vs F' H', Ext F H F' H' → Paired (fun u x => i.rp X.K F' u x) vs xs → Q vs H') → WA X es σ H Q
theorem es_nil : EAs X Γ [] ([] : List α) := fun B F H σ Q L q => WA.of pa_nil (q [] F H (Ext.refl L.same) .nil)
theorem es_cons {x : α} {xs : List α} (h : EV X Γ e x) (hr : EAs X Γ es xs) (hs : starEach (e :: es) X.env = (false, eval e X.env) :: starEach es X.env := by rfl) : EAs X Γ (e :: es) (x :: xs) := fun B F H σ Q L q =>
  WA.of (pa_cons peW paW hs) (h B F H σ _ L fun v F1 H1 e1 r1 => hr B F1 H1 σ _ (L.step e1) fun vs F2 H2 e2 r2 => q (v :: vs) F2 H2 (e1.trans e2) (.cons (i.mono e2.ff r1) r2))
theorem en_lst {xs : List α} (h : EAs X Γ es xs) (hz : xs.length ≤ sizeLine := by exact sl_small (by simp)) : EN X Γ (.List es pos) xs := fun B F H σ Q L q =>
  WE.of (pe_lst paW) (h B F H σ _ L fun vs F1 H1 e1 r1 => ⟨by rw [Paired.length r1]; exact hz, fun p hp => by
    have s1 := (L.step e1).same
    have ea := Ext.apart (o := .lst vs) s1 hp
    exact q p vs F1 _ (e1.trans ea) (e1.hs.free hp) (s1.free hp) upd_same r1⟩)
theorem ev_tupH {x1} {xs : List α} (h : EAs X Γ es xs) (hz : xs.length ≤ sizeLine := by exact sl_small (by simp)) : EV X Γ (.Tuple es x1 pos) (Tup.mk xs) := fun B F H σ Q L q =>
  WE.of (pe_tup paW) (h B F H σ _ L fun vs F1 H1 e1 r1 => ⟨by rw [Paired.length r1]; exact hz, fun p hp => by
    have s1 := (L.step e1).same
    have ea := Ext.new (o := .tup vs) s1 hp
    exact q (.ref p) _ _ (e1.trans ea) ⟨p, vs, rfl, upd_same, Paired.mapP r1 fun _ _ z => i.mono ea.ff z⟩⟩)
theorem ev_pair {x1} {x : α} {y : β} (ha : EV X Γ a x) (hb : EV X Γ b y) (hs : starEach [a, b] X.env = (false, eval a X.env) :: starEach [b] X.env := by rfl) (hs2 : starEach [b] X.env = (false, eval b X.env) :: starEach [] X.env := by rfl) : EV X Γ (.Tuple [a, b] x1 pos) (x, y) := fun B F H σ Q L q =>
  WE.of (pe_tup paW) (ea_cons ha (ea_cons hb ea_nil hs2) hs B F H σ _ L fun vs F1 H1 e1 r1 => by
    match vs, r1 with
    | [v, u], ⟨h1, h2, _⟩ =>
      exact ⟨by show 2 ≤ sizeLine; decide, fun p hp => by
        have s1 := (L.step e1).same
        have ea := Ext.new (o := .tup [v, u]) s1 hp
        exact q (.ref p) _ _ (e1.trans ea) ⟨p, v, u, rfl, upd_same, i.mono ea.ff h1, j.mono ea.ff h2⟩⟩)

/-! ### sequences -/
theorem sq_of {K : PySem.W.Frag} {F H : Hp} (s : Same F H) {a : Addr} {vs : List V} (h : F a = some (.lst vs)) : SqL K H a vs := .inl (.inl (s _ _ h))
theorem st_of {K : PySem.W.Frag} {F H : Hp} (s : Same F H) {a : Addr} {vs : List V} (h : F a = some (.tup vs)) : SqT K H a vs := .inl (.inl (s _ _ h))
/-- a call of a built-in with one argument -/
theorem ev_callB1 {n : Str} {id : String} {x : α} {z : β} {r : List V → Hp → VK → Prop} (hc : CallR X (.builtin id) r) (hm : X.mg n = none) (hv : bootBuiltins n = some (.builtin id)) (h : EV X Γ e x)
    (hr : ∀ F H v Q, Same F H → i.rp X.K F v x → (∀ w F' H', Ext F H F' H' → j.rp X.K F' w z → Q w H') → r [v] H Q) (hg : Gl X n := by rfl) (hn : n ≠ "__name__" := by decide) (hd : (n == ("__debug__" : Str)) = false := by decide)
    (hs : starEach [e] X.env = (false, eval e X.env) :: starEach [] X.env := by rfl) (hpl : (backTo pos (starEach [] X.env)).any (·.1) = false := by rfl) : EV X Γ (.Call (.Name n p) [e] [] pos) z := fun B F H σ Q L q =>
  WE.of (pe_callB hc hg hm hv (pa_cons peW pa_nil hs) hn hd hs hpl) (h B F H σ _ L fun v F1 H1 e1 r1 => hr F1 H1 v Q (L.step e1).same r1 fun w F2 H2 e2 r2 => q w F2 H2 (e1.trans e2) r2)
theorem ev_callT1 {n : Str} {id : String} {x : α} {z : β} {r : List V → Hp → VK → Prop} (hc : CallR X (.type id) r) (hm : X.mg n = none) (hv : bootBuiltins n = some (.type id)) (h : EV X Γ e x)
    (hr : ∀ F H v Q, Same F H → i.rp X.K F v x → (∀ w F' H', Ext F H F' H' → j.rp X.K F' w z → Q w H') → r [v] H Q) (hg : Gl X n := by rfl) (hn : n ≠ "__name__" := by decide) (hd : (n == ("__debug__" : Str)) = false := by decide)
    (hs : starEach [e] X.env = (false, eval e X.env) :: starEach [] X.env := by rfl) (hpl : (backTo pos (starEach [] X.env)).any (·.1) = false := by rfl) : EV X Γ (.Call (.Name n p) [e] [] pos) z := fun B F H σ Q L q =>
  WE.of (pe_callTy hc hg hm hv (pa_cons peW pa_nil hs) hn hd hs hpl) (h B F H σ _ L fun v F1 H1 e1 r1 => hr F1 H1 v Q (L.step e1).same r1 fun w F2 H2 e2 r2 => q w F2 H2 (e1.trans e2) r2)
theorem ev_len {xs : List α} (hm : X.mg "len" = none) (h : EV X Γ e xs) (hg : Gl X "len" := by rfl) (hs : starEach [e] X.env = (false, eval e X.env) :: starEach [] X.env := by rfl) (hpl : (backTo pos (starEach [] X.env)).any (·.1) = false := by rfl) :
    EV X Γ (.Call (.Name "len" p) [e] [] pos) (xs.length : Int) :=
  ev_callB1 call_len_seq hm PySem.boot_len h (fun F H v Q s r q => by
    obtain ⟨a, vs, rfl, ha, pr⟩ := r
    exact ⟨a, vs, rfl, .inl (sq_of s ha), q _ F H (Ext.refl s) (by rw [Paired.length pr]; rfl)⟩) hg (by decide) (by decide) hs hpl
theorem ev_lenT {xs : Tup α} (hm : X.mg "len" = none) (h : EV X Γ e xs) (hg : Gl X "len" := by rfl) (hs : starEach [e] X.env = (false, eval e X.env) :: starEach [] X.env := by rfl) (hpl : (backTo pos (starEach [] X.env)).any (·.1) = false := by rfl) :
    EV X Γ (.Call (.Name "len" p) [e] [] pos) (xs.l.length : Int) :=
  ev_callB1 call_len_seq hm PySem.boot_len h (fun F H v Q s r q => by
    obtain ⟨a, vs, rfl, ha, pr⟩ := r
    exact ⟨a, vs, rfl, .inr (st_of s ha), q _ F H (Ext.refl s) (by rw [Paired.length pr]; rfl)⟩) hg (by decide) (by decide) hs hpl
theorem ev_lenScr {xs : Scr} (hm : X.mg "len" = none) (h : EV X Γ e xs) (hg : Gl X "len" := by rfl) (hs : starEach [e] X.env = (false, eval e X.env) :: starEach [] X.env := by rfl) (hpl : (backTo pos (starEach [] X.env)).any (·.1) = false := by rfl) :
    EV X Γ (.Call (.Name "len" p) [e] [] pos) (xs.l.length : Int) :=
  ev_callB1 call_len_seq hm PySem.boot_len h (fun F H v Q s r q => by
    obtain ⟨a, rfl, ha⟩ := r
    exact ⟨a, _, rfl, .inl (s.seq ha), q _ F H (Ext.refl s) (by rw [List.length_map]; rfl)⟩) hg (by decide) (by decide) hs hpl
theorem ev_lenS {x : Tx} (hm : X.mg "len" = none) (h : EV X Γ e x) (hz : x.length ≤ sizeLine) (hg : Gl X "len" := by rfl) (hs : starEach [e] X.env = (false, eval e X.env) :: starEach [] X.env := by rfl) (hpl : (backTo pos (starEach [] X.env)).any (·.1) = false := by rfl) :
    EV X Γ (.Call (.Name "len" p) [e] [] pos) (x.length : Int) :=
  ev_callB1 call_len_str hm PySem.boot_len h (fun F H v Q s r q => ⟨sx x, by rw [show v = V.str (sx x) from r], by rw [sx_len]; exact hz, q _ F H (Ext.refl s) (by rw [sx_len]; rfl)⟩) hg (by decide) (by decide) hs hpl
theorem ev_ixL {xs : List α} {n : Int} {x : α} (ha : EV X Γ a xs) (hb : EV X Γ b n) (hx : atI xs n = some x) (hp : PlainIx b := by intro _ _; rfl) : EV X Γ (.Subscript a b pos) x := fun B F H σ Q L q =>
  WE.of (pe_ix ix_list peW peW hp) (ha B F H σ _ L fun v F1 H1 e1 r1 => hb B F1 H1 σ _ (L.step e1) fun u F2 H2 e2 r2 => by
    obtain ⟨ad, vs, rfl, h1, pr⟩ := r1
    obtain ⟨k, hk, hx⟩ := Option.bind_eq_some_iff.mp hx
    obtain ⟨w, hw, rw'⟩ := pgetL pr hx
    have s2 := (L.step (e1.trans e2)).same
    exact ⟨ad, vs, n, w, rfl, r2, sq_of s2 (e2.ff _ _ h1), by unfold atI; rw [Paired.length pr, hk]; exact hw, q w F2 H2 (e1.trans e2) (i.mono e2.ff rw')⟩)
theorem ev_ixT {xs : Tup α} {n : Int} {x : α} (ha : EV X Γ a xs) (hb : EV X Γ b n) (hx : atI xs.l n = some x) (hp : PlainIx b := by intro _ _; rfl) : EV X Γ (.Subscript a b pos) x := fun B F H σ Q L q =>
  WE.of (pe_ix ix_tup peW peW hp) (ha B F H σ _ L fun v F1 H1 e1 r1 => hb B F1 H1 σ _ (L.step e1) fun u F2 H2 e2 r2 => by
    obtain ⟨ad, vs, rfl, h1, pr⟩ := r1
    obtain ⟨k, hk, hx⟩ := Option.bind_eq_some_iff.mp hx
    obtain ⟨w, hw, rw'⟩ := pgetL pr hx
    have s2 := (L.step (e1.trans e2)).same
    exact ⟨ad, vs, n, w, rfl, r2, st_of s2 (e2.ff _ _ h1), by unfold atI; rw [Paired.length pr, hk]; exact hw, q w F2 H2 (e1.trans e2) (i.mono e2.ff rw')⟩)
theorem ev_ixScr {xs : Scr} {n : Int} {x : Int} (ha : EV X Γ a xs) (hb : EV X Γ b n) (hx : atI xs.l n = some x) (hp : PlainIx b := by intro _ _; rfl) : EV X Γ (.Subscript a b pos) x := fun B F H σ Q L q =>
  WE.of (pe_ix ix_list peW peW hp) (ha B F H σ _ L fun v F1 H1 e1 r1 => hb B F1 H1 σ _ (L.step e1) fun u F2 H2 e2 r2 => by
    obtain ⟨ad, rfl, h1⟩ := r1
    obtain ⟨k, hk, hx⟩ := Option.bind_eq_some_iff.mp hx
    have s2 := (L.step (e1.trans e2)).same
    exact ⟨ad, _, n, .int x, rfl, r2, s2.seq (e2.ff.seq h1), by unfold atI; rw [List.length_map, hk]; show (xs.l.map V.int)[k]? = _; rw [List.getElem?_map, hx]; rfl, q _ F2 H2 (e1.trans e2) rfl⟩)
theorem ev_ixS {x : Tx} {n : Int} {z : Nat} (ha : EV X Γ a x) (hb : EV X Γ b n) (hx : atI x n = some z) (hz : x.length ≤ sizeLine) (hp : PlainIx b := by intro _ _; rfl) : EV X Γ (.Subscript a b pos) ([z] : Tx) := fun B F H σ Q L q =>
  WE.of (pe_ix ix_str peW peW hp) (ha B F H σ _ L fun v F1 H1 e1 r1 => hb B F1 H1 σ _ (L.step e1) fun u F2 H2 e2 r2 =>
    ⟨sx x, n, z, r1, r2, by rw [sx_len]; exact hz, hx, q _ F2 H2 (e1.trans e2) rfl⟩)
/-- parts of a slice -/
def EO (X : Cx) (Γ : List Slot) (e : Option Expr) (o : Option Int) : Prop := match e, o with
  | none, none => True
  | some e, some n => EV X Γ e n
  | _, _ => False
def WO (X : Cx) (e : Option Expr) (Γ : List Slot) : TO := match e with
  | none => tNoPart
  | some e => tPart (WE X e)
theorem poW {e : Option Expr} : PO X e (WO X e Γ) := by
  cases e with
  | none => exact po_none
  | some e => exact po_some peW
theorem eo_run {e : Option Expr} {o : Option Int} (h : EO X Γ e o) {B : Bs} {F H : Hp} {σ : L2.St} {Q : Option Int → Hp → Prop} (L : Lc X.K B F H σ Γ) (q : ∀ F' H', Ext F H F' H' → Q o H') : WO X e Γ σ H Q := by
  cases e with
  | none =>
    cases o with
    | none => exact q F H (Ext.refl L.same)
    | some n => exact h.elim
  | some e =>
    cases o with
    | none => exact h.elim
    | some n => exact h B F H σ _ L fun v F1 H1 e1 r1 => ⟨n, r1, q F1 H1 e1⟩
def cutL {A : Type} (xs : List A) (lo hi : Option Int) : List A := (xs.drop (HT.sIx xs.length 0 lo)).take (HT.sIx xs.length xs.length hi - HT.sIx xs.length 0 lo)
theorem en_sliceL {p2 : Pos} {lo hi : Option Expr} {o1 o2 : Option Int} {xs : List α} (ha : EV X Γ a xs) (hl : EO X Γ lo o1) (hh : EO X Γ hi o2) : EN X Γ (.Subscript a (.Slice lo hi none p2) pos) (cutL xs o1 o2) := fun B F H σ Q L q =>
  WE.of (pe_slice sl_list peW (poW (Γ := Γ)) (poW (Γ := Γ))) (ha B F H σ _ L fun v F1 H1 e1 r1 => eo_run hl (L.step e1) fun F2 H2 e2 => eo_run hh (L.step (e1.trans e2)) fun F3 H3 e3 => by
    obtain ⟨ad, vs, rfl, h1, pr⟩ := r1
    have e123 := (e1.trans e2).trans e3
    have s3 := (L.step e123).same
    have e23 := e2.trans e3
    refine ⟨ad, vs, rfl, sq_of s3 (e23.ff _ _ h1), fun p hp => ?_⟩
    refine q p _ F3 _ (e123.trans (Ext.apart s3 hp)) (e123.hs.free hp) (s3.free hp) upd_same ?_
    unfold cutV cutL
    rw [Paired.length pr]
    exact ptake _ (pdrop _ (Paired.mapP pr fun _ _ z => i.mono e23.ff z)))
theorem ev_sliceS {p2 : Pos} {lo hi : Option Expr} {o1 o2 : Option Int} {x : Tx} (ha : EV X Γ a x) (hl : EO X Γ lo o1) (hh : EO X Γ hi o2) (hz : x.length ≤ sizeLine) : EV X Γ (.Subscript a (.Slice lo hi none p2) pos) (cutL x o1 o2) := fun B F H σ Q L q =>
  WE.of (pe_slice sl_str peW (poW (Γ := Γ)) (poW (Γ := Γ))) (ha B F H σ _ L fun v F1 H1 e1 r1 => eo_run hl (L.step e1) fun F2 H2 e2 => eo_run hh (L.step (e1.trans e2)) fun F3 H3 e3 =>
    ⟨sx x, r1, by rw [sx_len]; exact hz, q _ F3 H3 ((e1.trans e2).trans e3) (congrArg V.str (by
      unfold cutS cutL
      rw [sx_len]
      rfl))⟩)
end
end Tw

namespace Tw
open PySem PySem.Spec PyProof.Rows L2 TL

section
variable {X : Cx} {Γ : List Slot} {α β γ : Type} {i : Rep α} {j : Rep β} {l : Rep γ} {pos p : Pos} {e a b c : Expr} {es : List Expr} {E : SE} {rest body : List Stmt}

/-! ### small statements -/
theorem ED.seq {B : Bs} {F0 : Hp} {D : Ends} (ed : ED X B F0 E D) : ED X B F0 { E with nx := fun Γ' => ST X rest Γ' E } { D with nx := fun σ' H' => WP X rest D σ' H' } :=
  ⟨fun F H σ Γ s h L => h B F H σ D L (ed.weak s), ed.rt, ed.bk, ed.ct, ed.ex⟩
theorem st_nil (h : E.nx Γ) : ST X [] Γ E := fun B F H σ D L ed => WP.of pss_nil (ed.nx F H σ Γ (Same.refl F) h L)
theorem st_set (k : Nat) {n : Str} {x : α} (he : EV X Γ e x) (hr : ST X rest (Γ.set k (.val i x)) E) (hN : X.N.Nodup) (hi : X.N[k]? = some n := by rfl) (hx : L2.Loc X.env.scope n := by first | exact Or.inl rfl | exact Or.inr rfl)
    (hs : swapsWith e (some (.Name n p)) pos.line X.env = pure false := by rfl) (hf : X.fn n = true ∨ X.env.scope.names.lookup n = some .local := by first | exact .inl rfl | exact .inr rfl) : ST X (.Assign [.Name n p] e pos :: rest) Γ E := fun B F H σ D L ed =>
  WP.cons (ps_set hN hi hx peW hs hf) (he B F H σ _ L fun v F1 H1 e1 r1 => hr B F1 H1 _ D ((L.step e1).putV k r1) (ed.weak e1.ff))
theorem st_setN (k : Nat) {n : Str} {xs : List α} (he : EN X Γ e xs) (hr : ∀ ad, ST X rest (Γ.set k (.lst i ad xs)) E) (hN : X.N.Nodup) (hi : X.N[k]? = some n := by rfl) (hx : L2.Loc X.env.scope n := by first | exact Or.inl rfl | exact Or.inr rfl)
    (hs : swapsWith e (some (.Name n p)) pos.line X.env = pure false := by rfl) (hf : X.fn n = true ∨ X.env.scope.names.lookup n = some .local := by first | exact .inl rfl | exact .inr rfl) : ST X (.Assign [.Name n p] e pos :: rest) Γ E := fun B F H σ D L ed =>
  WP.cons (ps_set hN hi hx peW hs hf) (he B F H σ _ L fun ad vs F1 H1 e1 ha fa h1 pr => hr ad B F1 H1 _ D (L.putL k e1 ha fa h1 pr) (ed.weak e1.ff))
theorem st_ret {P : Ret → Prop} (he : EX X Γ e P) (hP : ∀ r, P r → E.rt r) : ST X (.Return (some e) pos :: rest) Γ E := fun B F H σ D L ed =>
  WP.cons (ps_ret peW) (he B F H σ _ L fun r v F1 H1 hr e1 ok => ed.rt r v F1 H1 (hP r hr) (L.step e1).ext (ok.imp fun b h => L.nw h))
theorem st_retV {x : α} (he : EV X Γ e x) (hP : E.rt (.val i x)) : ST X (.Return (some e) pos :: rest) Γ E := st_ret (P := fun r => r = .val i x) (ex_of_ev he rfl) fun r h => h ▸ hP
theorem st_retE {xs : List α} (he : EN X Γ e xs) (hP : E.rt (.new i xs)) : ST X (.Return (some e) pos :: rest) Γ E := st_ret (P := fun r => r = .new i xs) (ex_of_en he rfl) fun r h => h ▸ hP
/-- an own list is handed back -/
theorem st_retL (k : Nat) {n : Str} {ad : Addr} {xs : List α} (hP : E.rt (.new i xs)) (hN : X.N[k]? = some n := by rfl) (hv : Vis X.env.scope n := by first | exact Or.inl rfl | exact Or.inr (Or.inl rfl) | exact Or.inr (Or.inr rfl)) (hd : (n == ("__debug__" : Str)) = false := by decide)
    (hcd : (n == ("__classdict__" : Str)) = false := by decide) (hg : Γ[k]? = some (.lst i ad xs) := by rfl) : ST X (.Return (some (.Name n p)) pos :: rest) Γ E := fun B F H σ D L ed => by
  obtain ⟨vs, ea, fa, ba, ha, pr⟩ := slot_lst L hg
  exact WP.cons (ps_ret (pe_var hN hv hd hcd)) ⟨_, ea, ed.rt _ _ F H hP L.ext ⟨ad, vs, rfl, ba, fa, ha, pr⟩⟩
theorem st_retN (hP : E.rt (.val repUnit ())) : ST X (.Return none pos :: rest) Γ E := fun B F H σ D L ed => WP.cons ps_retN (ed.rt _ _ F H hP L.ext rfl)
theorem st_if {k : Bool} {A C : List Stmt} (hc : ET X Γ c k) (hA : k = true → ST X A Γ { E with nx := fun Γ' => ST X rest Γ' E }) (hC : k = false → ST X C Γ { E with nx := fun Γ' => ST X rest Γ' E }) : ST X (.If c A C pos :: rest) Γ E := fun B F H σ D L ed =>
  WP.cons (ps_if ptW psW psW) (hc B F H σ _ L fun F1 H1 e1 => by
    cases k with
    | true => exact hA rfl B F1 H1 σ _ (L.step e1) ((ed.weak e1.ff).seq)
    | false => exact hC rfl B F1 H1 σ _ (L.step e1) ((ed.weak e1.ff).seq))
theorem st_pass (hr : ST X rest Γ E) : ST X (.Pass pos :: rest) Γ E := fun B F H σ D L ed => WP.cons ps_pass (hr B F H σ D L ed)
theorem st_cont (h : E.ct Γ) : ST X (.Continue pos :: rest) Γ E := fun B F H σ D L ed => WP.cons ps_continue (ed.ct F H σ Γ (Same.refl F) h L)
theorem st_break (h : E.bk Γ) : ST X (.Break pos :: rest) Γ E := fun B F H σ D L ed => WP.cons ps_break (ed.bk F H σ Γ (Same.refl F) h L)
theorem st_doc {x k pos'} (hr : ST X rest Γ E) : ST X (.Expr (.Constant (.str x) k pos) pos' :: rest) Γ E := fun B F H σ D L ed => WP.cons ps_doc (hr B F H σ D L ed)
theorem st_drop {P : Ret → Prop} (he : EX X Γ e P) (hr : ST X rest Γ E) (hs : swapsWith e none pos.line X.env = pure false := by rfl) : ST X (.Expr e pos :: rest) Γ E := fun B F H σ D L ed =>
  WP.cons (ps_expr peW hs) (he B F H σ _ L fun r v F1 H1 _ e1 _ => hr B F1 H1 σ D (L.step e1) (ed.weak e1.ff))
/-- xs.append(e), xs an own list -/
theorem st_append (k : Nat) {n : Str} {ad : Addr} {xs : List α} {x : α} {apos cpos : Pos} (he : EV X Γ e x) (hr : ST X rest (Γ.set k (.lst i ad (xs ++ [x]))) E) (hz : xs.length < sizeLine) (hg : Γ[k]? = some (.lst i ad xs) := by rfl) (hN : X.N[k]? = some n := by rfl)
    (hv : Vis X.env.scope n := by first | exact Or.inl rfl | exact Or.inr (Or.inl rfl) | exact Or.inr (Or.inr rfl)) (hd : (n == ("__debug__" : Str)) = false := by decide) (hcd : (n == ("__classdict__" : Str)) = false := by decide)
    (hbase : attributeBase (.Name n p) "append" X.env (eval (.Name n p) X.env) = eval (.Name n p) X.env := by rfl)
    (hfew : ((backTo cpos (starEach [e] X.env)).all (fun x => !x.1) && (backToKw cpos (keywordEach [] X.env)).all (fun x => x.1.isSome) && decide ([e].length + ([] : List Keyword).length + (if ([] : List Keyword).isEmpty then 0 else 1) < 30)) = true := by rfl)
    (hline : (apos.endLine == cpos.line) = true := by rfl) (hs : starEach [e] X.env = (false, eval e X.env) :: starEach [] X.env := by rfl) (hplain : (backTo cpos (starEach [] X.env)).any (·.1) = false := by rfl)
    (hsw : swapsWith (.Call (.Attribute (.Name n p) "append" apos) [e] [] cpos) none pos.line X.env = pure false := by rfl) :
    ST X (.Expr (.Call (.Attribute (.Name n p) "append" apos) [e] [] cpos) pos :: rest) Γ E := fun B F H σ D L ed => by
  obtain ⟨vs, ea, fa, ba, ha, pr⟩ := slot_lst L hg
  refine WP.cons (ps_expr (pe_bm PySem.F.plainAttrs_list PySem.F.slot_list_append PySem.F.type_list_append mt_append (pe_var hN hv hd hcd) (pa_cons peW pa_nil hs) hbase hfew hline hs hplain) hsw) ?_
  refine ⟨_, ea, .inl ⟨rfl, _, .inl (.inl ha)⟩, he B F H σ _ L fun v F1 H1 e1 r1 => ?_⟩
  have L1 := L.step e1
  obtain ⟨vs1, _, _, _, ha1, pr1⟩ := slot_lst L1 hg
  refine ⟨ad, vs1, v, rfl, rfl, ha1, by rw [Paired.length pr1]; exact hz, ?_⟩
  exact hr B F1 _ σ D (L1.updL hg (papp pr1 (.cons r1 .nil))) (ed.weak e1.ff)

/-! ### sources -/
/-- what an iterator gives: these things -/
def Yields (K : PySem.W.Frag) (J : It) (F1 : Hp) {α : Type} [i : Rep α] (xs : List α) : Prop :=
  ∀ F2 H2, Same F1 F2 → Same F2 H2 → (∀ (k : Nat) x, xs[k]? = some x → J.go k H2 ∧ ∀ v H3, J.yld k H2 v H3 → ∃ F3, Ext F2 H2 F3 H3 ∧ i.rp K F3 v x) ∧ J.stop xs.length H2
def Src (X : Cx) (Γ : List Slot) (tg it : Expr) {α : Type} [i : Rep α] (xs : List α) : Prop :=
  ∃ wi, PI X tg it wi ∧ ∀ B F H σ R, Lc X.K B F H σ Γ → (∀ J F1 H1, Ext F H F1 H1 → Yields X.K J F1 xs → R J H1) → wi σ H R
variable {tg it : Expr}
theorem src_list {xs : List α} (h : EV X Γ it xs) : Src X Γ tg it xs := ⟨_, pi_list peW, fun B F H σ R L q => h B F H σ _ L fun v F1 H1 e1 r1 => by
  obtain ⟨ad, vs, rfl, ha, pr⟩ := r1
  refine ⟨ad, rfl, ⟨vs, sq_of (L.step e1).same ha⟩, q _ F1 H1 e1 fun F2 H2 s1 s2 => ⟨fun k x hx => ?_, vs, sq_of s2 (s1 _ _ ha), by rw [Paired.length pr]; exact Nat.le_refl _⟩⟩
  obtain ⟨w, hw, rw'⟩ := pgetL pr hx
  refine ⟨⟨vs, w, sq_of s2 (s1 _ _ ha), hw⟩, fun v H3 hy => ?_⟩
  obtain ⟨rfl, hy⟩ := hy
  have : v = w := Option.some.inj ((hy vs (sq_of s2 (s1 _ _ ha))).symm.trans hw)
  subst this
  exact ⟨F2, Ext.refl s2, i.mono s1 rw'⟩⟩
theorem src_tup {xs : Tup α} (h : EV X Γ it xs) : Src X Γ tg it xs.l := ⟨_, pi_tup peW, fun B F H σ R L q => h B F H σ _ L fun v F1 H1 e1 r1 => by
  obtain ⟨ad, vs, rfl, ha, pr⟩ := r1
  refine ⟨ad, rfl, ⟨vs, st_of (L.step e1).same ha⟩, q _ F1 H1 e1 fun F2 H2 s1 s2 => ⟨fun k x hx => ?_, vs, st_of s2 (s1 _ _ ha), by rw [Paired.length pr]; exact Nat.le_refl _⟩⟩
  obtain ⟨w, hw, rw'⟩ := pgetL pr hx
  refine ⟨⟨vs, w, st_of s2 (s1 _ _ ha), hw⟩, fun v H3 hy => ?_⟩
  obtain ⟨rfl, hy⟩ := hy
  have : v = w := Option.some.inj ((hy vs (st_of s2 (s1 _ _ ha))).symm.trans hw)
  subst this
  exact ⟨F2, Ext.refl s2, i.mono s1 rw'⟩⟩
theorem src_rev {xs : List α} {p2 : Pos} (hm : X.mg "reversed" = none) (h : EV X Γ it xs) (hg : Gl X "reversed" := by rfl) (hs : starEach [it] X.env = [(false, eval it X.env)] := by rfl) : Src X Γ tg (.Call (.Name "reversed" p) [it] [] p2) xs.reverse := ⟨_, pi_reversed hg hm (pa_cons peW pa_nil hs) hs, fun B F H σ R L q => h B F H σ _ L fun v F1 H1 e1 r1 => by
  obtain ⟨ad, vs, rfl, ha, pr⟩ := r1
  refine ⟨ad, vs, rfl, sq_of (L.step e1).same ha, q _ F1 H1 e1 fun F2 H2 s1 s2 => ⟨fun k x hx => ?_, by show vs.length ≤ _; rw [Paired.length pr, List.length_reverse]; exact Nat.le_refl _⟩⟩
  have hk : k < xs.length := by have := (List.getElem?_eq_some_iff.mp hx).1; simpa using this
  rw [List.getElem?_reverse hk] at hx
  obtain ⟨w, hw, rw'⟩ := pgetL pr hx
  rw [← Paired.length pr] at hw hk
  refine ⟨⟨hk, vs, w, sq_of s2 (s1 _ _ ha), hw⟩, fun v H3 hy => ?_⟩
  obtain ⟨rfl, hy⟩ := hy
  have : v = w := Option.some.inj ((hy vs (sq_of s2 (s1 _ _ ha))).symm.trans hw)
  subst this
  exact ⟨F2, Ext.refl s2, i.mono s1 rw'⟩⟩
theorem src_str {x : Tx} (h : EV X Γ it x) : Src X Γ tg it (x.map fun c => ([c] : Tx)) := ⟨_, pi_str peW, fun B F H σ R L q => h B F H σ _ L fun v F1 H1 e1 r1 => by
  obtain rfl : v = .str (sx x) := r1
  refine ⟨sx x, rfl, q _ F1 H1 e1 fun F2 H2 s1 s2 => ⟨fun k y hy => ?_, by show x.toArray.size ≤ _; simp⟩⟩
  have hk : k < x.length := by have := (List.getElem?_eq_some_iff.mp hy).1; simpa using this
  refine ⟨by show k < x.toArray.size; simpa using hk, fun v H3 hv => ?_⟩
  obtain ⟨rfl, c, hc, rfl⟩ := hv
  refine ⟨F2, Ext.refl s2, ?_⟩
  rw [List.getElem?_map] at hy
  have hc' : x[k]? = some c := by simpa [sx] using hc
  rw [hc'] at hy
  obtain rfl : ([c] : Tx) = y := Option.some.inj hy
  rfl⟩
def rng (lo : Int) (n : Nat) : List Int := (List.range n).map fun (k : Nat) => lo + (k : Int)
theorem rng_get {lo : Int} {n k : Nat} {x : Int} (h : (rng lo n)[k]? = some x) : k < n ∧ x = lo + k := by
  unfold rng at h
  rw [List.getElem?_map] at h
  by_cases hk : k < n
  · rw [List.getElem?_range hk] at h
    exact ⟨hk, (Option.some.inj h).symm⟩
  · rw [List.getElem?_eq_none (by simpa using hk)] at h; cases h
theorem rng_len {lo : Int} {n : Nat} : (rng lo n).length = n := by unfold rng; simp
theorem yields_rng {K : PySem.W.Frag} {F1 : Hp} {lo : Int} {n : Nat} : Yields K (Itr lo n) F1 (rng lo n) := fun F2 H2 s1 s2 => ⟨fun k x hx => by
  obtain ⟨hk, rfl⟩ := rng_get hx
  exact ⟨hk, fun v H3 hy => by obtain ⟨rfl, rfl⟩ := hy; exact ⟨F2, Ext.refl s2, rfl⟩⟩, by show n ≤ _; rw [rng_len]; exact Nat.le_refl _⟩
theorem src_range {n : Int} {p2 : Pos} (hm : X.mg "range" = none) (h : EV X Γ it n) (h1 : -(2 ^ 62) ≤ n) (h2 : n < 2 ^ 62) (hg : Gl X "range" := by rfl) (hs : starEach [it] X.env = [(false, eval it X.env)] := by rfl) : Src X Γ tg (.Call (.Name "range" p) [it] [] p2) (rng 0 n.toNat) :=
  ⟨_, pi_range1 hg hm (pa_cons peW pa_nil hs) hs, fun B F H σ R L q => h B F H σ _ L fun v F1 H1 e1 r1 => by
    obtain rfl : v = .int n := r1
    exact ⟨n, rfl, h1, h2, q _ F1 H1 e1 yields_rng⟩⟩
theorem src_range2 {m n : Int} {p2 : Pos} (hm : X.mg "range" = none) (ha : EV X Γ a m) (hb : EV X Γ b n) (h : -(2 ^ 62) ≤ m ∧ m < 2 ^ 62 ∧ -(2 ^ 62) ≤ n ∧ n < 2 ^ 62) (hg : Gl X "range" := by rfl)
    (hs : starEach [a, b] X.env = [(false, eval a X.env), (false, eval b X.env)] := by rfl) (hs2 : starEach [b] X.env = [(false, eval b X.env)] := by rfl) : Src X Γ tg (.Call (.Name "range" p) [a, b] [] p2) (rng m (n - m).toNat) :=
  ⟨_, pi_range2 hg hm (pa_cons peW (pa_cons peW pa_nil hs2) (by rw [hs, hs2])) hs hs2, fun B F H σ R L q => ha B F H σ _ L fun v F1 H1 e1 r1 => hb B F1 H1 σ _ (L.step e1) fun u F2 H2 e2 r2 => by
    obtain rfl : v = .int m := r1
    obtain rfl : u = .int n := r2
    exact ⟨m, n, rfl, h, q _ F2 H2 (e1.trans e2) yields_rng⟩⟩

/-! ### targets -/
theorem wipe_get {σ : L2.St} {k : Nat} : ∀ vs : List Nat, (wipe σ vs)[k]? = if k ∈ vs then (σ[k]?).map (fun _ => none) else σ[k]?
  | [] => by simp [wipe]
  | v :: vs => by
    unfold wipe
    by_cases h : v = k
    · subst h
      rw [if_pos (List.mem_cons_self ..), List.getElem?_set]
      rw [if_pos rfl]
      by_cases hl : v < σ.length
      · rw [if_pos (by rw [wipe_length]; exact hl), List.getElem?_eq_getElem hl]; rfl
      · rw [if_neg (by rw [wipe_length]; exact hl), List.getElem?_eq_none (by omega)]; rfl
    · rw [List.getElem?_set_ne h, wipe_get vs]
      have : (k ∈ v :: vs) ↔ k ∈ vs := by simp [Ne.symm h]
      simp only [this]
theorem wipe_wipe (σ : L2.St) (vs : List Nat) : wipe (wipe σ vs) vs = wipe σ vs := by
  refine List.ext_getElem? fun k => ?_
  rw [wipe_get, wipe_get]
  split
  · cases σ[k]? <;> rfl
  · rfl
def wipeS (Γ : List Slot) : List Nat → List Slot
  | [] => Γ
  | v :: vs => (wipeS Γ vs).set v .no
theorem Lc.wipe {K : PySem.W.Frag} {B : Bs} {F H : Hp} {σ : L2.St} {Γ : List Slot} (L : Lc K B F H σ Γ) : ∀ vs : List Nat, Lc K B F H (L2.wipe σ vs) (wipeS Γ vs)
  | [] => L
  | v :: vs => (L.wipe vs).putN v none
/-- a target that is given x -/
structure Tg (K : PySem.W.Frag) (g : TG) {α : Type} [i : Rep α] (bind : α → List Slot → List Slot) (vs : List Nat) : Prop where
  run : ∀ B F H σ Γ v x Q, Lc K B F H σ Γ → i.rp K F v x → (∀ σ2, Lc K B F H σ2 (bind x Γ) → wipe σ2 vs = wipe σ vs → Q σ2 H) → g v σ H Q
theorem tg_name {K : PySem.W.Frag} (k : Nat) : Tg K (gName k) (fun (x : α) Γ => Γ.set k (.val i x)) [k] := ⟨fun B F H σ Γ v x Q L r q => q _ (L.putV k r) (by show (σ.set k (some v)).set k none = σ.set k none; rw [List.set_set])⟩
theorem tg_pair {K : PySem.W.Frag} (k m : Nat) (hkm : k ≠ m) : Tg K (gTup K 2 (gCons (gName k) (gCons (gName m) gNil))) (fun (x : α × β) Γ => (Γ.set k (.val i x.1)).set m (.val j x.2)) [k, m] := ⟨fun B F H σ Γ v x Q L r q => by
  obtain ⟨ad, u, w, rfl, ha, r1, r2⟩ := r
  refine ⟨ad, [u, w], rfl, st_of L.same ha, rfl, u, [w], rfl, w, [], rfl, rfl, q _ ((L.putV k r1).putV m r2) ?_⟩
  show ((((σ.set k (some u)).set m (some w)).set m none).set k none) = (σ.set m none).set k none
  rw [List.set_set, List.set_comm _ _ hkm, List.set_set]⟩

/-! ### loops -/
/-- for tg in it: body; P: what the places hold ahead of each turn -/
theorem st_for {xs : List α} {bind : α → List Slot → List Slot} {vs : List Nat} {g : TG} (P : Nat → List Slot → Prop) (hS : Src X Γ tg it xs) (hT : Tg X.K g bind vs) (h0 : P 0 Γ)
    (hb : ∀ (k : Nat) x Γ', xs[k]? = some x → P k Γ' → ST X body (bind x Γ') { nx := P (k + 1), ct := P (k + 1), bk := fun Γ2 => ST X rest Γ2 E, rt := E.rt, ex := E.ex })
    (hd : ∀ Γ', P xs.length Γ' → ST X rest Γ' E) (hg : PG X tg g) (hp : PassesOwn (model X.prog X.w) X.A X.env X.xe := by first | exact PassesOwn.never | exact L2.passes_of rfl | assumption) (hc : X.calm = true := by rfl) (hs : ∀ x, foldedSetIterable it X.env x = pure x := by intro _; rfl) :
    ST X (.For tg it body [] pos :: rest) Γ E := fun B F H σ D L ed => by
  obtain ⟨wi, hi, run⟩ := hS
  refine WP.cons (ps_for hp hc hi hg psW hs) (run B F H σ _ L fun J F1 H1 e1 Y => ?_)
  have L1 := L.step e1
  refine ⟨fun t m σ H => m = xs.length - t ∧ t ≤ xs.length ∧ ∃ F2 Γ', P t Γ' ∧ Same F1 F2 ∧ Lc X.K B F2 H σ Γ', ⟨xs.length, rfl, Nat.zero_le _, F1, Γ, h0, Same.refl _, L1⟩, ?_⟩
  rintro t m σ H ⟨rfl, ht, F2, Γ', hP, s12, L2⟩
  have Y2 := Y F2 H s12 L2.same
  by_cases hlt : t < xs.length
  · have hx : xs[t]? = some xs[t] := List.getElem?_eq_getElem hlt
    obtain ⟨go, yl⟩ := Y2.1 t _ hx
    refine .inr ⟨go, fun σ' H' => ∃ F3 Γ3, P (t + 1) Γ3 ∧ Same F1 F3 ∧ Lc X.K B F3 H' σ' Γ3, fun σ' H' h => ⟨xs.length - (t + 1), by omega, rfl, hlt, h⟩, fun v H3 hy => ?_⟩
    obtain ⟨F3, e3, r3⟩ := yl v H3 hy
    refine hT.run B F3 H3 σ Γ' v _ _ (L2.step e3) r3 fun σ2 L4 _ => ?_
    refine hb t _ Γ' hx hP B F3 H3 σ2 _ L4 ⟨fun F5 H5 σ5 Γ5 s5 h5 L5 => ?_, ed.rt, fun F5 H5 σ5 Γ5 s5 h5 L5 => h5 B F5 H5 σ5 D L5 (ed.weak (e1.ff.trans (s12.trans (e3.ff.trans s5)))), fun F5 H5 σ5 Γ5 s5 h5 L5 => ?_, fun F5 H5 F6 H6 σ5 Γ5 x u d s5 h5 L5 => ed.ex F5 H5 F6 H6 σ5 Γ5 x u d (e1.ff.trans (s12.trans (e3.ff.trans s5))) h5 L5⟩
    · exact ⟨F5, Γ5, h5, s12.trans (e3.ff.trans s5), L5⟩
    · exact ⟨F5, Γ5, h5, s12.trans (e3.ff.trans s5), L5⟩
  · have et : t = xs.length := by omega
    subst et
    exact .inl ⟨Y2.2, hd Γ' hP B F2 H σ D L2 (ed.weak (e1.ff.trans s12))⟩
end
end Tw

namespace Tw
open PySem PySem.Spec PyProof.Rows L2 TL

section
variable {X : Cx} {Γ : List Slot} {α β γ : Type} {i : Rep α} {j : Rep β} {l : Rep γ} {pos p : Pos} {e a b c elt tg it : Expr} {es : List Expr} {E : SE} {rest body : List Stmt}

/-! ### comprehensions -/
abbrev Blk (X : Cx) (scope : Scope) (s : Shared) (H : Hp) (C : Addr) (cl : List (Str × Addr)) (fp : List Addr) : Cx := X.blk s H scope (compEnvC scope cl C X.env) fp
def tBlkE (X : Cx) (scope : Scope) (e : Expr) : TE := fun σ H Q => ∀ s H0 C cl fp, WE (Blk X scope s H0 C cl fp) e σ H Q
def tBlkT (X : Cx) (scope : Scope) (e : Expr) : TT := fun σ H Q => ∀ s H0 C cl fp, WT (Blk X scope s H0 C cl fp) e σ H Q
theorem lc_run {scope : Scope} {xs : List α} {f : α → β} {q : α → Bool} {bind : α → List Slot → List Slot} {vs : List Nat} {g : TG} {tt : TT} {wi : TI} {B : Bs} {F H : Hp} {σ : L2.St} {Q : VK} (L : Lc X.K B F H σ Γ)
    (run : ∀ R, (∀ J F1 H1, Ext F H F1 H1 → Yields X.K J F1 xs → R J H1) → wi σ H R) (hT : Tg X.K g bind vs)
    (ht : ∀ x ∈ xs, ∀ B F H σ R, Lc X.K B F H σ (bind x (wipeS Γ vs)) → (∀ F' H', Ext F H F' H' → R (q x) H') → tt σ H R)
    (he : ∀ x ∈ xs, q x = true → ∀ s H C cl fp, EV (Blk X scope s H C cl fp) (bind x (wipeS Γ vs)) elt (f x)) (hz : xs.length ≤ sizeLine)
    (k : ∀ a vs F' H', Ext F H F' H' → H a = none → F' a = none → H' a = some (.lst vs) → Paired (fun u x => j.rp X.K F' u x) vs ((xs.filter q).map f) → Q (.ref a) H') : tLc wi g tt (tBlkE X scope elt) vs σ H Q := by
  refine run _ fun J F1 H1 e1 Y D hD => ?_
  have L1 := L.step e1
  refine ⟨fun t m H' => m = xs.length - t ∧ t ≤ xs.length ∧ ∃ F2 acc, Ext F1 H1 F2 H' ∧ F2 D = none ∧ H' D = some (.lst acc) ∧ acc.length ≤ t ∧ Paired (fun u x => j.rp X.K F2 u x) acc (((xs.take t).filter q).map f),
    ⟨xs.length, rfl, Nat.zero_le _, F1, [], Ext.apart L1.same hD, L1.same.free hD, upd_same, Nat.le_refl _, .nil⟩, ?_⟩
  rintro t m H2 ⟨rfl, ht', F2, acc, e2, fD, hD2, hl, pr⟩
  have Y2 := Y F2 H2 e2.ff e2.fh
  by_cases hlt : t < xs.length
  · have hx : xs[t]? = some xs[t] := List.getElem?_eq_getElem hlt
    have hmem : xs[t] ∈ xs := List.getElem_mem hlt
    obtain ⟨go, yl⟩ := Y2.1 t _ hx
    refine .inr ⟨go, fun H' => ∃ F3 acc, Ext F1 H1 F3 H' ∧ F3 D = none ∧ H' D = some (.lst acc) ∧ acc.length ≤ t + 1 ∧ Paired (fun u x => j.rp X.K F3 u x) acc (((xs.take (t + 1)).filter q).map f), fun H' h => ⟨xs.length - (t + 1), by omega, rfl, hlt, h⟩, fun v H3 hy => ?_⟩
    obtain ⟨F3, e3, r3⟩ := yl v H3 hy
    have L3 := ((L1.step e2).wipe vs).step e3
    refine hT.run B F3 H3 _ _ v _ _ L3 r3 fun σ2 L4 hw => ⟨by rw [hw, wipe_wipe], ?_⟩
    refine ht _ hmem B F3 H3 σ2 _ L4 fun F4 H4 e4 => ?_
    have e34 := e3.trans e4
    have fD4 : F4 D = none := e34.nw D fD (by rw [hD2]; exact fun z => nomatch z)
    have etake : xs.take (t + 1) = xs.take t ++ [xs[t]] := by rw [List.take_add_one, hx]; rfl
    by_cases hq : q xs[t] = true
    · rw [if_pos hq]
      intro s H0 C cl fp
      refine he _ hmem hq s H0 C cl fp B F4 H4 σ2 _ (L4.step e4) fun w F5 H5 e5 r5 => ?_
      have e345 := e34.trans e5
      have hD5 : H5 D = some (.lst acc) := e345.hs _ _ hD2
      have fD5 : F5 D = none := e345.nw D fD (by rw [hD2]; exact fun z => nomatch z)
      have e25 := e2.trans e345
      refine ⟨acc, hD5, by omega, F5, acc ++ [w], ⟨e25.ff, same_upd e25.fh fD5, fun b o nb ob => ?_, e25.nwM⟩, fD5, upd_same, by simp; exact hl, ?_⟩
      · rw [upd_ne (ne_of_none ob hD)]; exact e25.hh b o nb ob
      · rw [etake, List.filter_append, List.map_append]
        have : ([xs[t]].filter q).map f = [f xs[t]] := by rw [List.filter_cons_of_pos hq]; rfl
        rw [this]
        exact papp (Paired.mapP pr fun _ _ z => j.mono e345.ff z) (.cons r5 .nil)
    · rw [if_neg hq]
      refine ⟨F4, acc, e2.trans e34, fD4, e34.hs _ _ hD2, by omega, ?_⟩
      rw [etake, List.filter_append, List.map_append]
      have : ([xs[t]].filter q).map f = [] := by rw [List.filter_cons_of_neg hq]; rfl
      rw [this, List.append_nil]
      exact Paired.mapP pr fun _ _ z => j.mono e34.ff z
  · have et : t = xs.length := by omega
    subst et
    refine .inl ⟨Y2.2, k D acc F2 H2 (e1.trans e2) (e1.hs.free hD) fD hD2 ?_⟩
    rw [List.take_length] at pr
    exact pr
theorem filter_yes {A : Type} (xs : List A) : xs.filter (fun _ => true) = xs := List.filter_eq_self.mpr fun _ _ => rfl
/-- [elt for tg in it] -/
theorem en_lc {scope : Scope} {own : List (Str × Nat)} {xs : List α} {f : α → β} {bind : α → List Slot → List Slot} {g : TG} (hS : Src X Γ tg it xs) (hT : Tg X.K g bind (own.map (·.2))) (hg : ∀ s H C cl fp, PG (Blk X scope s H C cl fp) tg g)
    (he : ∀ x ∈ xs, ∀ s H C cl fp, EV (Blk X scope s H C cl fp) (bind x (wipeS Γ (own.map (·.2)))) elt (f x)) (hN : X.N.Nodup) (ok : BlkOk X.N X.env.scope scope own := by exact blkOk_by (by decide +kernel)) (hz : xs.length ≤ sizeLine)
    (hc : X.calm = true := by rfl) (hs : ∀ x, foldedSetIterable it X.env x = pure x := by intro _; rfl) : EN X Γ (.ListComp elt [⟨tg, it, [], 0⟩] scope pos) (xs.map f) := fun B F H σ Q L k => by
  obtain ⟨wi, hi, run⟩ := hS
  refine WE.of (pe_lc (te := tBlkE X scope elt) hc hN hi ok hg (fun _ _ _ _ _ => pts_nil) (fun s H C cl fp => ⟨fun pins s' σ H' Q' I h => h s H C cl fp pins s' I⟩) hs) ?_
  refine lc_run (q := fun _ => true) L (fun R => run B F H σ R L) hT (fun x _ B F H σ R L h => h F H (Ext.refl L.same)) (fun x hx _ => he x hx) hz fun a vs F' H' e1 ha fa h' pr => k a vs F' H' e1 ha fa h' ?_
  rw [filter_yes] at pr
  exact pr
/-- [elt for tg in it if c] -/
theorem en_lcIf {scope : Scope} {own : List (Str × Nat)} {xs : List α} {f : α → β} {q : α → Bool} {bind : α → List Slot → List Slot} {g : TG} (hS : Src X Γ tg it xs) (hT : Tg X.K g bind (own.map (·.2))) (hg : ∀ s H C cl fp, PG (Blk X scope s H C cl fp) tg g)
    (ht : ∀ x ∈ xs, ∀ s H C cl fp, ET (Blk X scope s H C cl fp) (bind x (wipeS Γ (own.map (·.2)))) c (q x))
    (he : ∀ x ∈ xs, q x = true → ∀ s H C cl fp, EV (Blk X scope s H C cl fp) (bind x (wipeS Γ (own.map (·.2)))) elt (f x)) (hN : X.N.Nodup) (ok : BlkOk X.N X.env.scope scope own := by exact blkOk_by (by decide +kernel)) (hz : xs.length ≤ sizeLine)
    (hc : X.calm = true := by rfl) (hs : ∀ x, foldedSetIterable it X.env x = pure x := by intro _; rfl) : EN X Γ (.ListComp elt [⟨tg, it, [c], 0⟩] scope pos) ((xs.filter q).map f) := fun B F H σ Q L k => by
  obtain ⟨wi, hi, run⟩ := hS
  refine WE.of (pe_lc (te := tBlkE X scope elt) (tt := tBlkT X scope c) hc hN hi ok hg (fun s H C cl fp => pts_one ⟨fun pins s' σ H' Q' I h => h s H C cl fp pins s' I⟩) (fun s H C cl fp => ⟨fun pins s' σ H' Q' I h => h s H C cl fp pins s' I⟩) hs) ?_
  exact lc_run L (fun R => run B F H σ R L) hT (fun x hx B F H σ R L h => fun s H0 C cl fp => ht x hx s H0 C cl fp B F H σ R L h) he hz k
/-- y = [elt for tg in it] -/
theorem st_setLc (m : Nat) {y : Str} {py spos : Pos} {scope : Scope} {own : List (Str × Nat)} {xs : List α} {f : α → β} {bind : α → List Slot → List Slot} {g : TG} (hS : Src X Γ tg it xs) (hT : Tg X.K g bind (own.map (·.2))) (hg : ∀ s H C cl fp, PG (Blk X scope s H C cl fp) tg g)
    (he : ∀ x ∈ xs, ∀ s H C cl fp, EV (Blk X scope s H C cl fp) (bind x (wipeS Γ (own.map (·.2)))) elt (f x)) (hN : X.N.Nodup) (hz : xs.length ≤ sizeLine) (hr : ∀ ad, ST X rest (Γ.set m (.lst j ad (xs.map f))) E)
    (ok : BlkOk X.N X.env.scope scope own := by exact blkOk_by (by decide +kernel)) (hy : X.N[m]? = some y := by rfl) (hyl : X.env.scope.names.lookup y = some .local := by rfl)
    (hsw : swapsWith (.ListComp elt [⟨tg, it, [], 0⟩] scope pos) (some (.Name y py)) spos.line X.env = pure true := by exact sw_true rfl rfl rfl (by decide +kernel))
    (hc : X.calm = true := by rfl) (hs : ∀ x, foldedSetIterable it X.env x = pure x := by intro _; rfl) : ST X (.Assign [.Name y py] (.ListComp elt [⟨tg, it, [], 0⟩] scope pos) spos :: rest) Γ E := fun B F H σ D L ed => by
  obtain ⟨wi, hi, run⟩ := hS
  refine WP.cons (ps_setLc (te := tBlkE X scope elt) hc hN hy hyl hsw hi ok hg (fun _ _ _ _ _ => pts_nil) (fun s H C cl fp => ⟨fun pins s' σ H' Q' I h => h s H C cl fp pins s' I⟩) hs) ?_
  refine lc_run (q := fun _ => true) L (fun R => run B F H σ R L) hT (fun x _ B F H σ R L h => h F H (Ext.refl L.same)) (fun x hx _ => he x hx) hz fun a vs F' H' e1 ha fa h' pr => ?_
  rw [filter_yes] at pr
  exact hr a B F' H' _ D (L.putL m e1 ha fa h' pr) (ed.weak e1.ff)
theorem st_setLcIf (m : Nat) {y : Str} {py spos : Pos} {scope : Scope} {own : List (Str × Nat)} {xs : List α} {f : α → β} {q : α → Bool} {bind : α → List Slot → List Slot} {g : TG} (hS : Src X Γ tg it xs) (hT : Tg X.K g bind (own.map (·.2))) (hg : ∀ s H C cl fp, PG (Blk X scope s H C cl fp) tg g)
    (ht : ∀ x ∈ xs, ∀ s H C cl fp, ET (Blk X scope s H C cl fp) (bind x (wipeS Γ (own.map (·.2)))) c (q x))
    (he : ∀ x ∈ xs, q x = true → ∀ s H C cl fp, EV (Blk X scope s H C cl fp) (bind x (wipeS Γ (own.map (·.2)))) elt (f x)) (hN : X.N.Nodup) (hz : xs.length ≤ sizeLine) (hr : ∀ ad, ST X rest (Γ.set m (.lst j ad ((xs.filter q).map f))) E)
    (ok : BlkOk X.N X.env.scope scope own := by exact blkOk_by (by decide +kernel)) (hy : X.N[m]? = some y := by rfl) (hyl : X.env.scope.names.lookup y = some .local := by rfl)
    (hsw : swapsWith (.ListComp elt [⟨tg, it, [c], 0⟩] scope pos) (some (.Name y py)) spos.line X.env = pure true := by exact sw_true rfl rfl rfl (by decide +kernel))
    (hc : X.calm = true := by rfl) (hs : ∀ x, foldedSetIterable it X.env x = pure x := by intro _; rfl) : ST X (.Assign [.Name y py] (.ListComp elt [⟨tg, it, [c], 0⟩] scope pos) spos :: rest) Γ E := fun B F H σ D L ed => by
  obtain ⟨wi, hi, run⟩ := hS
  refine WP.cons (ps_setLc (te := tBlkE X scope elt) (tt := tBlkT X scope c) hc hN hy hyl hsw hi ok hg (fun s H C cl fp => pts_one ⟨fun pins s' σ H' Q' I h => h s H C cl fp pins s' I⟩) (fun s H C cl fp => ⟨fun pins s' σ H' Q' I h => h s H C cl fp pins s' I⟩) hs) ?_
  exact lc_run L (fun R => run B F H σ R L) hT (fun x hx B F H σ R L h => fun s H0 C cl fp => ht x hx s H0 C cl fp B F H σ R L h) he hz fun a vs F' H' e1 ha fa h' pr => hr a B F' H' _ D (L.putL m e1 ha fa h' pr) (ed.weak e1.ff)

/-! ### texts -/
theorem ev_join {o : Expr} {sep : Tx} {xs : List Tx} {apos : Pos} (ho : EV X Γ o sep) (h : EV X Γ e xs) (hz : (xs.map (·.length)).sum + xs.length * sep.length ≤ 16777216) (hs : starEach [e] X.env = [(false, eval e X.env)] := by rfl)
    (hbase : attributeBase o "join" X.env (eval o X.env) = eval o X.env := by rfl) (hline : (apos.endLine == pos.line) = true := by rfl) : EV X Γ (.Call (.Attribute o "join" apos) [e] [] pos) (joinL sep xs) := fun B F H σ Q L q =>
  WE.of (pe_join peW peW hs hbase hline) (ho B F H σ _ L fun v F1 H1 e1 r1 => ⟨⟨_, r1⟩, h B F1 H1 σ _ (L.step e1) fun u F2 H2 e2 r2 => by
    obtain ⟨ad, vs, rfl, ha, pr⟩ := r2
    have s2 := (L.step (e1.trans e2)).same
    refine ⟨sx sep, ad, xs.map sx, r1, rfl, .inl (by rw [← Rps.strs pr]; exact sq_of s2 ha), ?_, q _ F2 H2 (e1.trans e2) (congrArg V.str ?_)⟩
    · rw [List.map_map, List.length_map, sx_len]
      have : ((fun y : Str => y.length) ∘ sx) = (fun x : Tx => x.length) := funext fun x => sx_len x
      rw [this]; exact hz
    · rw [join_eq]
      refine ext_tl ?_
      rw [tl_join, List.map_map]
      have : (tl ∘ sx) = (id : Tx → Tx) := funext fun x => tl_sx x
      rw [this, List.map_id]
      rfl⟩)
theorem joinL_one {x : Tx} : joinL [] (x.map fun c => ([c] : Tx)) = x := by
  have : ∀ (y : List Tx), joinL [] y = y.flatten := by
    intro y
    induction y with
    | nil => rfl
    | cons a r ih =>
      cases r with
      | nil => simp [joinL]
      | cons b r => rw [joinL, ih]; simp
  rw [this]
  induction x with
  | nil => rfl
  | cons a r ih => rw [List.map_cons, List.flatten_cons, ih]; rfl
theorem joinL_nil (y : List Tx) : joinL [] y = y.flatten := by
  induction y with
  | nil => rfl
  | cons a r ih =>
    cases r with
    | nil => simp [joinL]
    | cons b r => rw [joinL, ih]; simp
theorem ev_joinRev {o : Expr} {x : Tx} {apos pos2 : Pos} (hm : X.mg "reversed" = none) (ho : EV X Γ o ([] : Tx)) (h : EV X Γ e x) (hz : x.length ≤ 16777216) (hg : Gl X "reversed" := by rfl) (hc : X.calm = true := by rfl)
    (hs1 : starEach [.Call (.Name "reversed" p) [e] [] pos2] X.env = [(false, eval (.Call (.Name "reversed" p) [e] [] pos2) X.env)] := by rfl) (hs : starEach [e] X.env = (false, eval e X.env) :: starEach [] X.env := by rfl)
    (hbase : attributeBase o "join" X.env (eval o X.env) = eval o X.env := by rfl) (hline : (apos.endLine == pos.line) = true := by rfl) : EV X Γ (.Call (.Attribute o "join" apos) [.Call (.Name "reversed" p) [e] [] pos2] [] pos) (x.reverse) := fun B F H σ Q L q =>
  WE.of (pe_joinRev hc peW hg hm peW hs1 hs hbase hline) (ho B F H σ _ L fun v F1 H1 e1 r1 => ⟨⟨_, r1⟩, h B F1 H1 σ _ (L.step e1) fun u F2 H2 e2 r2 => by
    refine ⟨sx [], sx x, r1, r2, ?_, ?_, q _ F2 H2 (e1.trans e2) (congrArg V.str ?_)⟩
    · rw [sx_len]; exact Nat.le_trans hz (by decide)
    · rw [sx_len, sx_len]; show x.length + x.length * 0 ≤ _; omega
    · rw [join_eq]
      refine ext_tl ?_
      rw [tl_join, List.map_map]
      show joinL [] (x.reverse.map (tl ∘ RevS.one)) = _
      have : (tl ∘ RevS.one) = fun c => ([c] : Tx) := rfl
      rw [this, joinL_one]
      rfl⟩)

/-! ### list(xs) -/
theorem en_list {xs : List α} (hm : X.mg "list" = none) (h : EV X Γ e xs) (hg : Gl X "list" := by rfl) (hs : starEach [e] X.env = (false, eval e X.env) :: starEach [] X.env := by rfl) (hpl : (backTo pos (starEach [] X.env)).any (·.1) = false := by rfl) :
    EN X Γ (.Call (.Name "list" p) [e] [] pos) xs := fun B F H σ Q L q =>
  WE.of (pe_callTy call_list_of hg hm (by decide +kernel) (pa_cons peW pa_nil hs) (by decide) (by decide) hs hpl) (h B F H σ _ L fun v F1 H1 e1 r1 => by
    obtain ⟨ad, vs, rfl, ha, pr⟩ := r1
    have s1 := (L.step e1).same
    exact ⟨ad, vs, rfl, .inl (sq_of s1 ha), fun q' hq => q q' vs F1 _ (e1.trans (Ext.apart s1 hq)) (e1.hs.free hq) (s1.free hq) upd_same pr⟩)

/-! ### what reads an own list without keeping it -/
class Flat (α : Type) [i : Rep α] : Prop where
  fl : ∀ {K F F' v} {x : α}, i.rp K F v x → i.rp K F' v x
instance : Flat Int := ⟨fun h => h⟩
instance : Flat Bool := ⟨fun h => h⟩
instance : Flat Unit := ⟨fun h => h⟩
instance : Flat (List Nat) := ⟨fun h => h⟩
/-- all of the places in ps frozen -/
def frz (F H : Hp) (ps : List Addr) : Hp := fun b => if b ∈ ps then H b else F b
theorem frz_in {F H : Hp} {ps : List Addr} {b : Addr} (h : b ∈ ps) : frz F H ps b = H b := if_pos h
theorem frz_out {F H : Hp} {ps : List Addr} {b : Addr} (h : b ∉ ps) : frz F H ps b = F b := if_neg h
theorem frz_le {F H : Hp} {ps : List Addr} (f : ∀ b ∈ ps, F b = none) : Same F (frz F H ps) := fun b u e => by
  rw [frz_out (fun hb => by rw [f b hb] at e; cases e)]; exact e
theorem frz_same {F H : Hp} {ps : List Addr} (s : Same F H) : Same (frz F H ps) H := fun b u e => by
  by_cases hb : b ∈ ps
  · rw [frz_in hb] at e; exact e
  · rw [frz_out hb] at e; exact s _ _ e
/-- an own thing that, frozen, is the data x -/
def Froz (o : Own) {α : Type} [i : Rep α] (x : α) : Prop := ∀ {K : PySem.W.Frag} {F H : Hp} {v : V}, Same F H → o.ok K F H v → (∀ b ∈ o.fp, F b = none) → i.rp K (frz F H o.fp) v x
theorem frozL {a : Addr} {xs : List α} : Froz (ownL i a xs) xs := fun {K F H v} s ⟨e, vs, h, p⟩ f => ⟨a, vs, e, (frz_in (ps := [a]) (List.mem_singleton.mpr rfl)).trans h, Paired.mapP p fun _ _ q => i.mono (frz_le f) q⟩
theorem Lc.lendO {K : PySem.W.Frag} {B : Bs} {F H : Hp} {σ : L2.St} {k : Nat} {o : Own} {x : α} (L : Lc K B F H σ Γ) (hk : Γ[k]? = some (.own o)) (hx : Froz o x) :
    Lc K ⟨frz F H o.fp, H, fun _ => True⟩ (frz F H o.fp) H σ (Γ.set k (.val i x)) ∧ ∀ b ∈ o.fp, F b = none := by
  obtain ⟨v, ev, ok, f⟩ := slot_own L hk
  have f0 : ∀ b ∈ o.fp, F b = none := fun b hb => (f b hb).1
  refine ⟨⟨⟨Same.refl _, frz_same L.same, fun _ _ n => absurd trivial n, fun _ _ h _ => h⟩, fun _ _ h => h, by simp [L.len], fun q t hq => ?_, L.ap.put k rfl⟩, f0⟩
  rcases get_set_slot hq with ⟨e1, e2, rfl⟩ | ⟨e1, hq'⟩
  · subst e1
    rw [ev]
    exact ⟨v, rfl, hx L.same ok f0⟩
  · have old := L.ok q t hq'
    cases t with
    | no => trivial
    | val i x => obtain ⟨v, e2, r⟩ := old; exact ⟨v, e2, i.mono (frz_le f0) r⟩
    | own o2 =>
      obtain ⟨u, eu, ok2, f2⟩ := old
      exact ⟨u, eu, o2.stay (frz_le f0) (fun _ _ _ h => h) ok2, fun b hb => ⟨by rw [frz_out (fun hb2 => L.ap k q o o2 e1 hk hq' b hb2 hb)]; exact (f2 b hb).1, .inr trivial⟩⟩
theorem Lc.lend {K : PySem.W.Frag} {B : Bs} {F H : Hp} {σ : L2.St} {k : Nat} {ad : Addr} {xs : List α} (L : Lc K B F H σ Γ) (hk : Γ[k]? = some (.lst i ad xs)) :
    Lc K ⟨frz F H [ad], H, fun _ => True⟩ (frz F H [ad]) H σ (Γ.set k (.val repList xs)) ∧ ∀ b ∈ [ad], F b = none := L.lendO hk frozL
theorem lend_back {F H F' H' : Hp} {ps : List Addr} (s : Same F H) (e : Ext (frz F H ps) H F' H') : Ext F H F H' := ⟨Same.refl F, s.trans e.hs, e.hh, fun _ _ h _ => h⟩
theorem ev_lendO (k : Nat) {o : Own} {x : α} {y : β} [Flat β] (hx : Froz o x) (h : EV X (Γ.set k (.val i x)) e y) (hk : Γ[k]? = some (.own o) := by rfl) : EV X Γ e y := fun B F H σ Q L q => by
  obtain ⟨L', fa⟩ := L.lendO hk hx
  exact h _ _ H σ Q L' fun v F' H' ex r => q v F H' (lend_back L.same ex) (Flat.fl r)
theorem et_lendO (k : Nat) {o : Own} {x : α} {y : Bool} (hx : Froz o x) (h : ET X (Γ.set k (.val i x)) e y) (hk : Γ[k]? = some (.own o) := by rfl) : ET X Γ e y := fun B F H σ Q L q => by
  obtain ⟨L', fa⟩ := L.lendO hk hx
  exact h _ _ H σ Q L' fun F' H' ex => q F H' (lend_back L.same ex)
theorem en_lendO (k : Nat) {o : Own} {x : α} {ys : List β} [Flat β] (hx : Froz o x) (h : EN X (Γ.set k (.val i x)) e ys) (hk : Γ[k]? = some (.own o) := by rfl) : EN X Γ e ys := fun B F H σ Q L q => by
  obtain ⟨L', fa⟩ := L.lendO hk hx
  exact h _ _ H σ Q L' fun a vs F' H' ex ha f2 h' pr => q a vs F H' (lend_back L.same ex) ha (L.same.free ha) h' (Paired.mapP pr fun _ _ z => Flat.fl z)
theorem ev_lend (k : Nat) {ad : Addr} {xs : List α} {y : β} [Flat β] (h : EV X (Γ.set k (.val repList xs)) e y) (hk : Γ[k]? = some (.lst i ad xs) := by rfl) : EV X Γ e y := ev_lendO k frozL h hk
theorem et_lend (k : Nat) {ad : Addr} {xs : List α} {y : Bool} (h : ET X (Γ.set k (.val repList xs)) e y) (hk : Γ[k]? = some (.lst i ad xs) := by rfl) : ET X Γ e y := et_lendO k frozL h hk
theorem en_lend (k : Nat) {ad : Addr} {xs : List α} {ys : List β} [Flat β] (h : EN X (Γ.set k (.val repList xs)) e ys) (hk : Γ[k]? = some (.lst i ad xs) := by rfl) : EN X Γ e ys := en_lendO k frozL h hk

/-! ### calls of defs -/
theorem ex_call {n : Str} {k : Nat} {ps : List Str} {S : Spec} {A : List Slot} {P : Ret → Prop} (G : Has X.prog X.w X.K X.mg X.base k n ps S) (hr : Room k X.A) (ha : EA X Γ (e :: es) A)
    (hS : ∀ P' R', (∀ r, P r → P' r) → S A P' R') (hg : Gl X n := by rfl) (hd : (n == ("__debug__" : Str)) = false := by decide)
    (he : starEach (e :: es) X.env = (false, eval e X.env) :: starEach es X.env := by rfl) (hpl : (backTo pos (starEach es X.env)).any (·.1) = false := by rfl) : EX X Γ (.Call (.Name n p) (e :: es) [] pos) P := fun B F H σ Q L q => by
  obtain ⟨f, fd, hm, hk, hb, G⟩ := G.ex
  refine WE.of (pe_call G hr hg hm hk hb .nil passL paW hd he hpl) (ha B F H σ _ L fun vs F1 H1 e1 r1 => ?_)
  rw [List.append_nil]
  exact ⟨F1, A, (L.step e1).same, r1.toO, r1.apart, hS _ _ fun r hr v F2 H2 e2 ok => q r v F2 H2 hr (e1.thenM e2 fun _ m => (r1.ma m).elim) (ok.imp fun b h => e1.hs.free (h.elim id fun m => (r1.ma m).elim))⟩
theorem ev_call {n : Str} {k : Nat} {ps : List Str} {S : Spec} {A : List Slot} {x : α} (G : Has X.prog X.w X.K X.mg X.base k n ps S) (hr : Room k X.A) (ha : EA X Γ (e :: es) A) (hS : ∀ P R, P (.val i x) → S A P R) (hg : Gl X n := by rfl) (hd : (n == ("__debug__" : Str)) = false := by decide)
    (he : starEach (e :: es) X.env = (false, eval e X.env) :: starEach es X.env := by rfl) (hpl : (backTo pos (starEach es X.env)).any (·.1) = false := by rfl) : EV X Γ (.Call (.Name n p) (e :: es) [] pos) x :=
  ev_of_ex (ex_call G hr ha (fun P' R' h => hS P' R' (h _ rfl)) hg hd he hpl)
theorem en_call {n : Str} {k : Nat} {ps : List Str} {S : Spec} {A : List Slot} {xs : List α} (G : Has X.prog X.w X.K X.mg X.base k n ps S) (hr : Room k X.A) (ha : EA X Γ (e :: es) A) (hS : ∀ P R, P (.new i xs) → S A P R) (hg : Gl X n := by rfl) (hd : (n == ("__debug__" : Str)) = false := by decide)
    (he : starEach (e :: es) X.env = (false, eval e X.env) :: starEach es X.env := by rfl) (hpl : (backTo pos (starEach es X.env)).any (·.1) = false := by rfl) : EN X Γ (.Call (.Name n p) (e :: es) [] pos) xs :=
  en_of_ex (ex_call G hr ha (fun P' R' h => hS P' R' (h _ rfl)) hg hd he hpl)
end

/-! ### defs -/
section
variable {P : Program} {w : World} {K : PySem.W.Frag} {mg : Str → Option Value} {base : Heap}
structure Df (K : PySem.W.Frag) (mg : Str → Option Value) (n : Str) (st : Stmt) (ps : List Str) : Prop where
  ex : ∃ f fd, Fun K n n st f fd ∧ Binds K fd ps [] ∧ mg n = some (.ref f)
/-- the places at the entry -/
theorem lc_start {F H : Hp} (s : Same F H) : ∀ {vs : List V} {A : List Slot} (r : VsOkO K F H vs A) (ap : Apart A) (n : Nat), Lc K ⟨F, H, MA A⟩ F H (vs.map some ++ List.replicate n none) (A ++ List.replicate n .no) := by
  intro vs A r ap n
  have key : ∀ {vs : List V} {A A0 : List Slot}, VsOkO K F H vs A → (∀ s ∈ A, s ∈ A0) → ∀ (k : Nat) t, (A ++ List.replicate n Slot.no)[k]? = some t → SlotOk K ⟨F, H, MA A0⟩ F H ((vs.map some ++ List.replicate n none)[k]?).join t := by
    intro vs A
    induction A generalizing vs with
    | nil =>
      intro A0 r _ k t h
      rw [List.nil_append, List.getElem?_replicate] at h
      split at h
      · cases h; exact trivial
      · cases h
    | cons a A ih =>
      intro A0 r hm k t h
      cases vs with
      | nil => cases a <;> exact r.elim
      | cons v vs =>
        cases a with
        | no => exact r.elim
        | own o =>
          cases k with
          | zero =>
            simp at h
            subst h
            exact ⟨v, rfl, r.1, fun b hb => ⟨r.2.1 b hb, .inr ⟨o, hm _ (List.mem_cons_self ..), hb⟩⟩⟩
          | succ k => exact ih r.2.2 (fun s hs => hm s (List.mem_cons_of_mem _ hs)) k t (by simpa using h)
        | val i x =>
          cases k with
          | zero =>
            simp at h
            subst h
            exact ⟨v, rfl, r.1⟩
          | succ k => exact ih r.2 (fun s hs => hm s (List.mem_cons_of_mem _ hs)) k t (by simpa using h)
  have inA : ∀ {k : Nat} {o : Own}, (A ++ List.replicate n Slot.no)[k]? = some (.own o) → A[k]? = some (.own o) := fun {k o} h => by
    by_cases hk : k < A.length
    · rw [List.getElem?_append_left hk] at h; exact h
    · rw [List.getElem?_append_right (by omega), List.getElem?_replicate] at h
      split at h <;> cases h
  exact ⟨⟨Same.refl _, s, fun _ _ _ h => h, fun _ _ h _ => h⟩, fun _ _ h => h, by simp [r.len], fun k t h => key r (fun _ h => h) k t h, fun x y o1 o2 hxy h1 h2 => ap x y o1 o2 hxy (inA h1) (inA h2)⟩
theorem Has.of {n : Str} {st : Stmt} {N ps : List Str} {k : Nat} {S : Spec} (D : Df K mg n st ps) (sc : FnScope N ps (defScope st)) (len : ∀ A Q R, S A Q R → A.length = ps.length)
    (body : ∀ (f : Addr) (cdv : Value) (A : Around) (outer : List Env) (s : Shared) (H : Hp) (E : XK), Room k (A.deeper (envOfC n (defScope st) s.heap.objs.size f cdv)) → ∀ Γ Q R, S Γ Q R →
      ST (cxOf (L2.CX P w) P w K mg base N n (defScope st) f cdv A outer s H E).nox (defBody st) (Γ ++ List.replicate (N.length - ps.length) .no) (fin Q)) :
    Has P w K mg base (k + 1) n ps S := by
  obtain ⟨f, fd, F, hb, hm⟩ := D.ex
  refine ⟨f, fd, hm, F.kp, hb, F.okX sc (fun vs H Q E ⟨F0, A, s, r, ap, h⟩ => ?_) (fun cdv A outer s H vs Q E hr h => ?_)⟩
  · rw [r.len]; exact len _ _ _ h
  · obtain ⟨F0, A0, sm, r, ap, h⟩ := h
    refine ⟨_, psW.nox, ?_⟩
    have hl := len _ _ _ h
    have L0 := lc_start (K := K) sm r ap (N.length - ps.length)
    have L1 : Lc K ⟨F0, H, MA A0⟩ F0 H (L2.start N vs) (A0 ++ List.replicate (N.length - ps.length) .no) := by
      unfold L2.start
      rw [show vs.length = ps.length from r.len.trans hl]
      exact L0
    refine body f cdv A outer s H E hr A0 _ _ h ⟨F0, H, MA A0⟩ F0 H _ _ L1 ⟨fun F' H' σ' Γ' _ hq L => ?_, fun r v F' H' hq ex ok => hq v F' H' ex ok, fun _ _ _ _ _ z => z.elim, fun _ _ _ _ _ z => z.elim, fun _ _ _ _ _ _ _ _ _ _ z => z.elim⟩
    exact hq .non F' H' L.ext rfl
end
end Tw

namespace Tw
open PySem PySem.Spec PyProof.Rows L2 TL

/-! ### data that may be compared -/
class Dat (α : Type) [i : Rep α] [DecidableEq α] where
  en : α → PyData
  ok : α → Prop
  dep : Nat
  dp : ∀ {K F v x}, i.rp K F v x → Dp K F v (en x)
  lay : ∀ {x}, ok x → (en x).canLay0 = true
  deep : ∀ x, (en x).depth ≤ dep
  eqv : ∀ x y, PyData.eqv (en x) (en y) = decide (x = y)
instance : Dat Int := ⟨.int, fun _ => True, 0, fun {_ _ v x} h => by obtain rfl : v = .int x := h; exact .int _, fun _ => by rw [PyData.canLay0], fun _ => by simp [PyData.depth], fun x y => by simp [PyData.eqv, Bool.beq_eq_decide_eq]⟩
instance : Dat Bool := ⟨.bool, fun _ => True, 0, fun {_ _ v x} h => by obtain rfl : v = .bl x := h; exact .bl _, fun _ => by rw [PyData.canLay0], fun _ => by simp [PyData.depth], fun x y => by simp [PyData.eqv, Bool.beq_eq_decide_eq]⟩
def TxOk (x : Tx) : Prop := ∀ c ∈ x, c < 1114112
instance : Dat (List Nat) := ⟨fun x => .str (sx x), TxOk, 0, fun {_ _ v x} h => by obtain rfl : v = .str (sx x) := h; exact .str _, fun {x} h => by
    rw [PyData.canLay0]
    show (sx x).cps.all (· < 0x110000) = true
    rw [Array.all_eq_true']
    intro c hc
    exact decide_eq_true (h c (by simpa [sx] using hc)), fun _ => by simp [PyData.depth], fun x y => by
    rw [PyData.eqv, Bool.beq_eq_decide_eq]
    by_cases h : x = y
    · subst h; rw [decide_eq_true rfl, decide_eq_true rfl]
    · rw [decide_eq_false h, decide_eq_false fun z => h (sx_inj z)]⟩
section
variable {α β : Type} [i : Rep α] [DecidableEq α] [d : Dat α] [j : Rep β] [DecidableEq β] [f : Dat β]
theorem dpAll {K : PySem.W.Frag} {F : Hp} : ∀ {vs : List V} {xs : List α}, Paired (fun u x => i.rp K F u x) vs xs → DpAll K F vs (xs.map d.en)
  | _, _, .nil => .nil
  | _, _, .cons r t => .cons (d.dp r) (dpAll t)
theorem layAll : ∀ {xs : List α}, (∀ x ∈ xs, d.ok x) → PyData.canLayAll0 (xs.map d.en) = true
  | [], _ => by rw [List.map_nil, PyData.canLayAll0]
  | x :: xs, h => by
    rw [List.map_cons, PyData.canLayAll0, d.lay (h x (List.mem_cons_self ..)), layAll fun y hy => h y (List.mem_cons_of_mem _ hy)]
    rfl
theorem deepAll : ∀ xs : List α, PyData.depthAll (xs.map d.en) ≤ d.dep
  | [] => by rw [List.map_nil, PyData.depthAll]; exact Nat.zero_le _
  | x :: xs => by rw [List.map_cons, PyData.depthAll]; exact Nat.max_le.mpr ⟨d.deep x, deepAll xs⟩
theorem eqvAll : ∀ xs ys : List α, PyData.eqvAll (xs.map d.en) (ys.map d.en) = decide (xs = ys)
  | [], [] => by rw [List.map_nil, PyData.eqvAll]; rfl
  | x :: xs, [] => by rw [List.map_cons, List.map_nil, PyData.eqvAll]; rfl
  | [], y :: ys => by rw [List.map_cons, List.map_nil, PyData.eqvAll]; rfl
  | x :: xs, y :: ys => by
    rw [List.map_cons, List.map_cons, PyData.eqvAll, d.eqv, eqvAll xs ys, ← Bool.decide_and]
    exact decide_eq_decide.mpr (by simp)
instance : Dat (List α) := ⟨fun xs => .list (xs.map d.en), fun xs => ∀ x ∈ xs, d.ok x, d.dep + 1, fun {K F v xs} ⟨a, vs, e, h, pr⟩ => by subst e; exact .lst (.inl (.inl h)) (dpAll pr), fun h => by rw [PyData.canLay0]; exact layAll h,
  fun xs => by rw [PyData.depth]; exact Nat.succ_le_succ (deepAll xs), fun xs ys => by rw [PyData.eqv]; exact eqvAll xs ys⟩
instance : DecidableEq (Tup α) := fun x y => decidable_of_iff (x.l = y.l) (by cases x; cases y; simp)
instance : Dat (Tup α) := ⟨fun xs => .tuple (xs.l.map d.en), fun xs => ∀ x ∈ xs.l, d.ok x, d.dep + 1, fun {K F v xs} ⟨a, vs, e, h, pr⟩ => by subst e; exact .tup (.inl (.inl h)) (dpAll pr), fun h => by rw [PyData.canLay0]; exact layAll h,
  fun xs => by rw [PyData.depth]; exact Nat.succ_le_succ (deepAll xs.l), fun xs ys => by
    rw [PyData.eqv, eqvAll]
    exact decide_eq_decide.mpr (by cases xs; cases ys; simp)⟩
instance : Dat (α × β) := ⟨fun x => .tuple [d.en x.1, f.en x.2], fun x => d.ok x.1 ∧ f.ok x.2, max d.dep f.dep + 1, fun {K F v x} ⟨a, u, w, e, h, r1, r2⟩ => by subst e; exact .tup (.inl (.inl h)) (.cons (d.dp r1) (.cons (f.dp r2) .nil)),
  fun {x} h => by rw [PyData.canLay0, PyData.canLayAll0, PyData.canLayAll0, PyData.canLayAll0, d.lay h.1, f.lay h.2]; rfl,
  fun x => by
    rw [PyData.depth, PyData.depthAll, PyData.depthAll, PyData.depthAll]
    have h1 := d.deep x.1
    have h2 := f.deep x.2
    omega, fun x y => by
    rw [PyData.eqv, PyData.eqvAll, PyData.eqvAll, PyData.eqvAll, d.eqv, f.eqv, Bool.and_true, ← Bool.decide_and]
    exact decide_eq_decide.mpr (by cases x; cases y; simp)⟩
theorem shp {x : α} (h : d.ok x) (h2 : d.dep ≤ 64) : SeqAt.shaped (d.en x) = true := by
  unfold SeqAt.shaped
  rw [d.lay h, decide_eq_true (Nat.le_trans (d.deep x) h2)]
  rfl
end
section
variable {α : Type} [i : Rep α] [DecidableEq α] [d : Dat α] {X : Cx}
theorem dp_mono {K : PySem.W.Frag} {F H : Hp} {v : V} {x : α} (s : Same F H) (r : i.rp K F v x) : Dp K H v (d.en x) := d.dp (i.mono s r)
theorem o_eqD {x y : α} {k : Nat} (hr : Room k X.A) (hx : d.ok x) (hy : d.ok y) (h2 : d.dep ≤ 64 := by decide) : OB X (compareOp .Eq) x y (decide (x = y)) := ob_flat (op_eqD hr.units) fun F H v u Q s r1 r2 q =>
  ⟨d.en x, d.en y, dp_mono s r1, dp_mono s r2, shp hx h2, shp hy h2, q _ (by rw [d.eqv]; rfl)⟩
theorem o_neD {x y : α} {k : Nat} (hr : Room k X.A) (hx : d.ok x) (hy : d.ok y) (h2 : d.dep ≤ 64 := by decide) : OB X (compareOp .NotEq) x y (!decide (x = y)) := ob_flat (op_neD hr.units) fun F H v u Q s r1 r2 q =>
  ⟨d.en x, d.en y, dp_mono s r1, dp_mono s r2, shp hx h2, shp hy h2, q _ (by rw [d.eqv]; rfl)⟩
end

/-! ### isinstance with a built-in class -/
class Ty (α : Type) [i : Rep α] where
  ty : String
  is : ∀ {K F H v} {x : α}, Same F H → i.rp K F v x → TyX K H v (.type ty)
instance : Ty Int := ⟨"int", fun {_ _ _ v x} _ h => by obtain rfl : v = .int x := h; exact .base (.int _)⟩
instance : Ty Bool := ⟨"bool", fun {_ _ _ v x} _ h => by obtain rfl : v = .bl x := h; exact .base (.bl _)⟩
instance : Ty (List Nat) := ⟨"str", fun {_ _ _ v x} _ h => by obtain rfl : v = .str (sx x) := h; exact .base (.str _)⟩
instance {α : Type} [i : Rep α] : Ty (List α) := ⟨"list", fun {_ _ _ v x} s h => by obtain ⟨a, vs, rfl, h, _⟩ := h; exact .base (.lst (s _ _ h))⟩
instance {α : Type} [i : Rep α] : Ty (Tup α) := ⟨"tuple", fun {_ _ _ v x} s h => by obtain ⟨a, vs, rfl, h, _⟩ := h; exact .base (.tup (s _ _ h))⟩
instance {α β : Type} [i : Rep α] [j : Rep β] : Ty (α × β) := ⟨"tuple", fun {_ _ _ v x} s h => by obtain ⟨a, u, w, rfl, h, _⟩ := h; exact .base (.tup (s _ _ h))⟩
section
variable {X : Cx} {Γ : List Slot} {α β γ : Type} {i : Rep α} {j : Rep β} {l : Rep γ} {pos p p2 : Pos} {e a b c elt tg it : Expr} {es : List Expr} {E : SE} {rest body : List Stmt}
theorem ev_isi {α : Type} [i : Rep α] [t : Ty α] {x : α} (T : String) (k : Bool) (hm : X.mg "isinstance" = none) (hmT : X.mg (Str.ofString T) = none) (h : EV X Γ e x) (hvT : bootBuiltins (Str.ofString T) = some (.type T) := by decide +kernel) (hk : kitB t.ty T = some k := by decide +kernel) (hg : Gl X "isinstance" := by rfl) (hgT : Gl X (Str.ofString T) := by rfl)
    (hnT : Str.ofString T ≠ "__name__" := by decide) (hdT : (Str.ofString T == ("__debug__" : Str)) = false := by decide)
    (hs : starEach [e, .Name (Str.ofString T) p2] X.env = (false, eval e X.env) :: starEach [.Name (Str.ofString T) p2] X.env := by rfl) (hs2 : starEach [.Name (Str.ofString T) p2] X.env = (false, eval (.Name (Str.ofString T) p2) X.env) :: starEach [] X.env := by rfl) (hpl : (backTo pos (starEach [.Name (Str.ofString T) p2] X.env)).any (·.1) = false := by rfl) :
    EV X Γ (.Call (.Name "isinstance" p) [e, .Name (Str.ofString T) p2] [] pos) k := fun B F H σ Q L q =>
  WE.of (pe_callB call_isi hg hm (by decide +kernel) (pa_cons peW (pa_cons (pe_bltn (v := .ty T) hgT hmT hvT rfl hnT hdT) pa_nil hs2) hs) (by decide) (by decide) hs hpl) (h B F H σ _ L fun v F1 H1 e1 r1 =>
    ⟨v, .ty T, .type t.ty, .type T, k, rfl, .ty T, t.is (L.step e1).same r1, kit_ty hk, q _ F1 H1 e1 rfl⟩)

/-! ### more statements -/
/-- a loop over an own list, which the body leaves -/
theorem st_forO (m : Nat) {n : Str} {ad : Addr} {xs : List α} {bind : α → List Slot → List Slot} {vs : List Nat} {g : TG} (P : Nat → List Slot → Prop) (hT : Tg X.K g bind vs) (h0 : P 0 Γ) (hown : ∀ k Γ', P k Γ' → Γ'[m]? = some (.lst i ad xs))
    (hb : ∀ (k : Nat) x Γ', xs[k]? = some x → P k Γ' → ST X body (bind x Γ') { nx := P (k + 1), ct := P (k + 1), bk := fun Γ2 => ST X rest Γ2 E, rt := E.rt, ex := E.ex })
    (hd : ∀ Γ', P xs.length Γ' → ST X rest Γ' E) (hg : PG X tg g) (hN : X.N[m]? = some n := by rfl)
    (hv : Vis X.env.scope n := by first | exact Or.inl rfl | exact Or.inr (Or.inl rfl) | exact Or.inr (Or.inr rfl)) (hdd : (n == ("__debug__" : Str)) = false := by decide) (hcd : (n == ("__classdict__" : Str)) = false := by decide)
    (hp : PassesOwn (model X.prog X.w) X.A X.env X.xe := by first | exact PassesOwn.never | exact L2.passes_of rfl | assumption) (hc : X.calm = true := by rfl) (hs : ∀ x, foldedSetIterable (.Name n p) X.env x = pure x := by intro _; rfl) :
    ST X (.For tg (.Name n p) body [] pos :: rest) Γ E := fun B F H σ D L ed => by
  obtain ⟨vs0, ea, _, _, ha, pr0⟩ := slot_lst L (hown 0 Γ h0)
  refine WP.cons (ps_for hp hc (pi_list (pe_var hN hv hdd hcd)) hg psW hs) ⟨_, ea, ad, rfl, ⟨vs0, .inl (.inl ha)⟩, fun t m σ H => m = xs.length - t ∧ t ≤ xs.length ∧ ∃ F2 Γ', P t Γ' ∧ Same F F2 ∧ Lc X.K B F2 H σ Γ', ⟨xs.length, rfl, Nat.zero_le _, F, Γ, h0, Same.refl _, L⟩, ?_⟩
  rintro t m σ H ⟨rfl, ht, F2, Γ', hP, s12, L2⟩
  obtain ⟨vs1, _, _, _, ha1, pr1⟩ := slot_lst L2 (hown t Γ' hP)
  have sq : SqL X.K H ad vs1 := .inl (.inl ha1)
  by_cases hlt : t < xs.length
  · have hx : xs[t]? = some xs[t] := List.getElem?_eq_getElem hlt
    obtain ⟨u, hu, ru⟩ := pgetL pr1 hx
    refine .inr ⟨⟨vs1, u, sq, hu⟩, fun σ' H' => ∃ F3 Γ3, P (t + 1) Γ3 ∧ Same F F3 ∧ Lc X.K B F3 H' σ' Γ3, fun σ' H' h => ⟨xs.length - (t + 1), by omega, rfl, hlt, h⟩, fun v H3 hy => ?_⟩
    obtain ⟨rfl, hy⟩ := hy
    have : v = u := Option.some.inj ((hy vs1 sq).symm.trans hu)
    subst this
    refine hT.run B F2 _ σ Γ' v _ _ L2 ru fun σ2 L4 _ => ?_
    refine hb t _ Γ' hx hP B F2 _ σ2 _ L4 ⟨fun F5 H5 σ5 Γ5 s5 h5 L5 => ?_, ed.rt, fun F5 H5 σ5 Γ5 s5 h5 L5 => h5 B F5 H5 σ5 D L5 (ed.weak (s12.trans s5)), fun F5 H5 σ5 Γ5 s5 h5 L5 => ?_, fun F5 H5 F6 H6 σ5 Γ5 x u d s5 h5 L5 => ed.ex F5 H5 F6 H6 σ5 Γ5 x u d (s12.trans s5) h5 L5⟩
    · exact ⟨F5, Γ5, h5, s12.trans s5, L5⟩
    · exact ⟨F5, Γ5, h5, s12.trans s5, L5⟩
  · have et : t = xs.length := by omega
    subst et
    exact .inl ⟨⟨vs1, sq, by rw [Paired.length pr1]; exact Nat.le_refl _⟩, hd Γ' hP B F2 H σ D L2 (ed.weak s12)⟩
/-- xs[n] = e, xs an own list -/
theorem st_setIx (m : Nat) {n : Str} {ad : Addr} {xs : List α} {x : α} {z : Int} {t : Nat} {sp : Pos} {sl : Expr} (he : EV X Γ e x) (hi : EV X Γ sl z) (hz : ixN xs.length z = some t) (hr : ST X rest (Γ.set m (.lst i ad (xs.set t x))) E) (hgm : Γ[m]? = some (.lst i ad xs) := by rfl) (hN : X.N[m]? = some n := by rfl)
    (hv : Vis X.env.scope n := by first | exact Or.inl rfl | exact Or.inr (Or.inl rfl) | exact Or.inr (Or.inr rfl)) (hdd : (n == ("__debug__" : Str)) = false := by decide) (hcd : (n == ("__classdict__" : Str)) = false := by decide)
    (hpg : ∀ v, assign (.Subscript (.Name n p) sl sp) X.env v = (do
      let ov ← holding [v] (eval (.Name n p) X.env)
      let iv ← holding [v, ov] (eval sl X.env)
      standAt sp
      holding [v, ov, iv] (setItem ov iv v)
      release [v, ov, iv] []) := by intro _; rfl)
    (hs : swapsWithSole [.Subscript (.Name n p) sl sp] e pos.line X.env = pure false := by rfl) (hw : swappedStores [.Subscript (.Name n p) sl sp] e X.env = pure none := by rfl)
    (h1 : (assignEach [.Subscript (.Name n p) sl sp] X.env).map (·.2) = [assign (.Subscript (.Name n p) sl sp) X.env] := by rfl) :
    ST X (.Assign [.Subscript (.Name n p) sl sp] e pos :: rest) Γ E := fun B F H σ D L ed => by
  obtain ⟨_, ea, _, _, _, _⟩ := slot_lst L hgm
  refine WP.cons (ps_asg peW (pg_sub (pe_var hN hv hdd hcd) peW set_list hpg) hs hw h1) (he B F H σ _ L fun v F1 H1 e1 r1 => ⟨_, ea, hi B F1 H1 σ _ (L.step e1) fun u F2 H2 e2 r2 => ?_⟩)
  have L2 := L.step (e1.trans e2)
  obtain ⟨vs, _, _, _, ha, pr⟩ := slot_lst L2 hgm
  exact ⟨ad, vs, z, t, rfl, r2, ha, by rw [Paired.length pr]; exact hz, hr B F2 _ σ D (L2.updL hgm (pset (i.mono e2.ff r1) t pr)) (ed.weak (e1.trans e2).ff)⟩
/-- targets = e, by a target's rule -/
theorem st_asg {x : α} {bind : α → List Slot → List Slot} {vs : List Nat} {g : TG} (he : EV X Γ e x) (hT : Tg X.K g bind vs) (hr : ST X rest (bind x Γ) E) (hg : PG X tg g) (hs : swapsWithSole [tg] e pos.line X.env = pure false := by rfl) (hw : swappedStores [tg] e X.env = pure none := by rfl)
    (h1 : (assignEach [tg] X.env).map (·.2) = [assign tg X.env] := by rfl) : ST X (.Assign [tg] e pos :: rest) Γ E := fun B F H σ D L ed =>
  WP.cons (ps_asg peW hg hs hw h1) (he B F H σ _ L fun v F1 H1 e1 r1 => hT.run B F1 H1 σ Γ v x _ (L.step e1) r1 fun σ2 L2 _ => hr B F1 H1 σ2 D L2 (ed.weak e1.ff))
/-- a, b = x, y with plain names -/
theorem st_par (k m : Nat) {n1 n2 : Str} {x : α} {y : β} {px py pt pt2 : Pos} {kt k2} (ha : EV X Γ a x) (hb : EV X Γ b y) (hr : ST X rest ((Γ.set k (.val i x)).set m (.val j y)) E) (hN : X.N.Nodup) (hkm : k ≠ m := by decide) (hc : X.calm = true := by rfl) (hi : X.N[k]? = some n1 := by rfl) (hj : X.N[m]? = some n2 := by rfl)
    (hx : X.env.scope.names.lookup n1 = some .local := by rfl) (hy : X.env.scope.names.lookup n2 = some .local := by rfl) (hs1 : starEach [a, b] X.env = (false, eval a X.env) :: starEach [b] X.env := by rfl) (hs2 : starEach [b] X.env = (false, eval b X.env) :: starEach [] X.env := by rfl)
    (hw : swappedStores [.Tuple [.Name n1 px, .Name n2 py] kt pt] (.Tuple [a, b] k2 pt2) X.env = pure (some [n1, n2]) := by rfl)
    (hs : swapsWithSole [.Tuple [.Name n1 px, .Name n2 py] kt pt] (.Tuple [a, b] k2 pt2) pos.line X.env = pure false := by rfl) :
    ST X (.Assign [.Tuple [.Name n1 px, .Name n2 py] kt pt] (.Tuple [a, b] k2 pt2) pos :: rest) Γ E := fun B F H σ D L ed =>
  WP.cons (ps_par hc hN hi hj hkm hx hy paW hw hs) (ea_cons ha (ea_cons hb ea_nil hs2) hs1 B F H σ _ L fun vs F1 H1 e1 r1 => by
    match vs, r1 with
    | [v, u], ⟨h1, h2, _⟩ => exact ⟨v, u, rfl, hr B F1 H1 _ D (((L.step e1).putV k h1).putV m h2) (ed.weak e1.ff)⟩)
/-- some places are forgotten -/
def Le (Γ Γ' : List Slot) : Prop := Γ.length = Γ'.length ∧ ∀ (k : Nat) s, Γ'[k]? = some s → s = .no ∨ Γ[k]? = some s
theorem Le.refl : Le Γ Γ := ⟨rfl, fun _ _ h => .inr h⟩
theorem le_nil : Le [] [] := ⟨rfl, fun _ _ h => .inr h⟩
theorem le_cons {s : Slot} {Γ Γ' : List Slot} (h : Le Γ Γ') : Le (s :: Γ) (s :: Γ') := ⟨by simp [h.1], fun k t e => by
  cases k with
  | zero => exact .inr e
  | succ k => exact h.2 k t (by simpa using e)⟩
theorem le_no {s : Slot} {Γ Γ' : List Slot} (h : Le Γ Γ') : Le (s :: Γ) (.no :: Γ') := ⟨by simp [h.1], fun k t e => by
  cases k with
  | zero => simp at e; exact .inl e.symm
  | succ k => exact h.2 k t (by simpa using e)⟩
theorem Le.trans {Γ Γ' Γ'' : List Slot} (h : Le Γ Γ') (h2 : Le Γ' Γ'') : Le Γ Γ'' := ⟨h.1.trans h2.1, fun k s e => by
  rcases h2.2 k s e with z | z
  · exact .inl z
  · exact h.2 k s z⟩
theorem Lc.le {K : PySem.W.Frag} {B : Bs} {F H : Hp} {σ : L2.St} {Γ Γ' : List Slot} (L : Lc K B F H σ Γ) (h : Le Γ Γ') : Lc K B F H σ Γ' :=
  ⟨L.ext, L.there, L.len.trans h.1, fun k s e => by
    rcases h.2 k s e with rfl | e
    · trivial
    · exact L.ok k s e, fun x y o1 o2 hxy h1 h2 => by
    rcases h.2 x _ h1 with z | h1
    · cases z
    rcases h.2 y _ h2 with z | h2
    · cases z
    exact L.ap x y o1 o2 hxy h1 h2⟩
theorem st_le {sts : List Stmt} {Γ Γ' : List Slot} (h : Le Γ Γ') (hs : ST X sts Γ' E) : ST X sts Γ E := fun B F H σ D L ed => hs B F H σ D (L.le h) ed
end
/-- the law: True for every script -/
def lawS : Spec := fun A P _ => ∃ s : Scr, A = [vl s] ∧ s.l.length ≤ 63 ∧ P (rv true)
theorem hCX0 (P : Program) (w : World) (H : Hp) (s : Shared) (e : Value) (s' : Shared) : L2.CX P w [] H s (fun _ _ _ => False) e s' → False := fun ⟨_, _, _, _, _, _, _, _, _, _, _, _, z⟩ => z
theorem law_sp (K : PySem.W.Frag) (H : Hp) (a : Addr) (ns : List Int) (hl : ns.length ≤ 63) (hS : SqL K H a (ns.map V.int)) : spOf K lawS [.ref a] H (fun v _ => v = .bl true) fun _ _ _ => False := by
  refine ⟨H, [vl (Scr.mk ns)], Same.refl H, ⟨⟨a, rfl, hS⟩, trivial⟩, fun i j o1 o2 _ h1 _ => ?_, ⟨ns⟩, rfl, hl, fun v F' H' _ ok => ok⟩
  have := List.mem_of_getElem? h1
  rw [List.mem_singleton] at this
  cases this

section
variable {P : Program} {w : World} {K : PySem.W.Frag} {mg : Str → Option Value} {base : Heap}
/-- a body does what the spec says, from any entry -/
def BodyOk (P : Program) (w : World) (K : PySem.W.Frag) (mg : Str → Option Value) (base : Heap) (k : Nat) (n : Str) (st : Stmt) (N ps : List Str) (S : Spec) : Prop :=
  ∀ (f : Addr) (cdv : Value) (A : Around) (outer : List Env) (s : Shared) (H : Hp) (E : XK), Room k (A.deeper (envOfC n (defScope st) s.heap.objs.size f cdv)) → ∀ Γ Q R, S Γ Q R →
      ST (cxOf (L2.CX P w) P w K mg base N n (defScope st) f cdv A outer s H E).nox (defBody st) (Γ ++ List.replicate (N.length - ps.length) .no) (fin Q)
theorem law_fn {f : Addr} {fd : FuncData} {st : Stmt} {N : List Str} {x : Str} {k : Nat} (F : Fun K "law" "law" st f fd) (sc : FnScope N [x] (defScope st)) (body : BodyOk P w K mg base k "law" st N [x] lawS) :
    FnOk P w K mg base (L2.CX P w) (k + 1) f fd [x] (spOf K lawS) := by
  refine F.okX sc (fun vs H Q E ⟨F0, A, s, r, ap, h⟩ => ?_) (fun cdv A outer s H vs Q E hr h => ?_)
  · obtain ⟨s, rfl, _⟩ := h
    rw [r.len]; rfl
  · obtain ⟨F0, A0, sm, r, ap, h⟩ := h
    refine ⟨_, psW.nox, ?_⟩
    have hl : A0.length = 1 := by obtain ⟨s, rfl, _⟩ := h; rfl
    have L0 := lc_start (K := K) sm r ap (N.length - 1)
    have L1 : Lc K ⟨F0, H, MA A0⟩ F0 H (L2.start N vs) (A0 ++ List.replicate (N.length - 1) .no) := by
      unfold L2.start
      rw [show vs.length = 1 from r.len.trans hl]
      exact L0
    refine body f cdv A outer s H E hr A0 _ _ h ⟨F0, H, MA A0⟩ F0 H _ _ L1 ⟨fun F' H' σ' Γ' _ hq L => ?_, fun r v F' H' hq ex ok => hq v F' H' ex ok, fun _ _ _ _ _ z => z.elim, fun _ _ _ _ _ z => z.elim, fun _ _ _ _ _ _ _ _ _ _ z => z.elim⟩
    exact hq .non F' H' L.ext rfl
end
theorem ev_gintE {X : Cx} {Γ : List Slot} {pos : Pos} {n : Str} {z : Int} (hm : ∃ t, X.mg n = some (.int z t)) (hg : Gl X n := by rfl) (hd : (n == ("__debug__" : Str)) = false := by decide) : EV X Γ (.Name n pos) z := by
  obtain ⟨t, hm⟩ := hm
  exact ev_gint hm hg hd
theorem ev_gstrE {X : Cx} {Γ : List Slot} {pos : Pos} {n : Str} {s : String} (hm : ∃ t, X.mg n = some (.str (Str.ofString s) t)) (hg : Gl X n := by rfl) (hd : (n == ("__debug__" : Str)) = false := by decide) : EV X Γ (.Name n pos) (tx s) := by
  obtain ⟨t, hm⟩ := hm
  exact ev_gstr s hm hg hd

theorem pgn {X : Cx} (k : Nat) {n : Str} {pos : Pos} (hN : X.N.Nodup) (hi : X.N[k]? = some n := by rfl) (hx : L2.Loc X.env.scope n := by first | exact Or.inl rfl | exact Or.inr rfl)
    (hf : X.fn n = true ∨ X.env.scope.names.lookup n = some .local := by first | exact .inl rfl | exact .inr rfl) : PG X (.Name n pos) (gName k) := pg_name hN hi hx hf
theorem Le.set {Γ Γ' : List Slot} (h : Le Γ Γ') (k : Nat) (s : Slot) : Le (Γ.set k s) (Γ'.set k s) := ⟨by simp [h.1], fun q t e => by
  rcases get_set_slot e with ⟨e1, e2, rfl⟩ | ⟨e1, e⟩
  · refine .inr ?_
    subst e1
    rw [List.getElem?_set_self (by rw [h.1]; exact e2)]
  · rcases h.2 q t e with z | z
    · exact .inl z
    · exact .inr (by rw [List.getElem?_set_ne e1]; exact z)⟩

theorem en_nil {X : Cx} {Γ : List Slot} {pos : Pos} (α : Type) [i : Rep α] : EN X Γ (.List [] pos) ([] : List α) := en_lst es_nil

theorem rng_get0 {n k : Nat} {x : Int} (h : (rng 0 n)[k]? = some x) : k < n ∧ x = (k : Int) := by
  obtain ⟨h1, h2⟩ := rng_get h
  exact ⟨h1, by rw [h2]; omega⟩
theorem rng_mem {lo : Int} {n : Nat} {x : Int} (h : x ∈ rng lo n) : ∃ k : Nat, k < n ∧ x = lo + k := by
  unfold rng at h
  obtain ⟨k, hk, rfl⟩ := List.mem_map.mp h
  exact ⟨k, List.mem_range.mp hk, rfl⟩
theorem joinOnes {A : Type} (xs : List A) (f : A → Nat) : joinL [] (xs.map fun x => ([f x] : Tx)) = xs.map f := by
  rw [show (fun x => ([f x] : Tx)) = (fun c => ([c] : Tx)) ∘ f from rfl, ← List.map_map, joinL_one]
theorem take_snoc {A : Type} {xs : List A} {k : Nat} {x : A} (h : xs[k]? = some x) : xs.take (k + 1) = xs.take k ++ [x] := by rw [List.take_add_one, h]; rfl
theorem lt_line {n : Nat} (h : n ≤ 1000) : n < sizeLine := Nat.lt_of_le_of_lt h (by decide)
theorem sum_ones {A : Type} (xs : List A) (f : A → Nat) : ((xs.map fun x => ([f x] : Tx)).map (·.length)).sum = xs.length := by
  rw [List.map_map, show (List.length ∘ fun x => ([f x] : Tx)) = fun _ => 1 from rfl, List.map_const', List.sum_replicate_nat]; omega
end Tw

namespace Tw
open PySem PySem.Spec PyProof.Rows L2 TL
section
variable {X : Cx} {Γ : List Slot} {α β γ δ : Type} {i : Rep α} {j : Rep β} {l : Rep γ} {m : Rep δ} {pos p p2 : Pos} {e a b c d elt tg it : Expr} {es : List Expr} {E : SE} {rest body : List Stmt}
/-- a < b < c < d, as a test -/
theorem et_chain3 {op1 op2 op3 : CmpOp} {x : α} {y : β} {z : γ} {t : δ} {k1 k2 k3 : Bool} (o1 : OB X (compareOp op1) x y k1) (o2 : k1 = true → OB X (compareOp op2) y z k2) (o3 : k1 = true → k2 = true → OB X (compareOp op3) z t k3)
    (ha : EV X Γ a x) (hb : EV X Γ b y) (hc : k1 = true → EV X Γ c z) (hd : k1 = true → k2 = true → EV X Γ d t) (hm : lastMarks [op1, op2, op3] [b, c, d] = false := by with_unfolding_all rfl) :
    ET X Γ (.Compare a [op1, op2, op3] [b, c, d] pos) (k1 && (k2 && k3)) := fun B F H σ Q L q pins s I => by
  refine isTrue_chain (thn (ha B F H σ (fun v H1 => ∃ F1, Ext F H F1 H1 ∧ i.rp X.K F1 v x) L (fun v F1 H1 e r => ⟨F1, e, r⟩) pins s I) fun va s1 ⟨v, H1, I1, rv1, F1, e1, r1⟩ => ?_) hm
  refine test_link (thn (hb B F1 H1 σ (fun v H2 => ∃ F2, Ext F1 H1 F2 H2 ∧ j.rp X.K F2 v y) (L.step e1) (fun v F2 H2 e r => ⟨F2, e, r⟩) pins s1 I1) fun vb s2 ⟨u, H2, I2, rv2, F2, e2, r2⟩ => ?_)
  have L2 := L.step (e1.trans e2)
  refine thn (o1 F2 H2 v u (fun w H3 => ∃ F3, Ext F2 H2 F3 H3 ∧ w = .bl k1) L2.same (i.mono e2.ff r1) r2 (fun w F3 H3 e hw => ⟨F3, e, hw⟩) pins s2 σ va vb I2 rv1 rv2) fun c1 s3 ⟨w1, H3, I3, rw1, F3, e3, hw1⟩ => ?_
  subst hw1
  obtain rfl : c1 = Value.bool k1 := rw1
  refine wpAny_truthy_bool ?_
  have e123 := (e1.trans e2).trans e3
  cases k1 with
  | false => exact ite_ff ⟨H3, I3, q F3 H3 e123⟩
  | true =>
    refine ite_tt (test_link (thn (hc rfl B F3 H3 σ (fun v H4 => ∃ F4, Ext F3 H3 F4 H4 ∧ l.rp X.K F4 v z) (L.step e123) (fun v F4 H4 e r => ⟨F4, e, r⟩) pins s3 I3) fun vc s4 ⟨t1, H4, I4, rv3, F4, e4, r4⟩ => ?_))
    have e1234 := e123.trans e4
    refine thn (o2 rfl F4 H4 u t1 (fun w H5 => ∃ F5, Ext F4 H4 F5 H5 ∧ w = .bl k2) (L.step e1234).same (j.mono (e3.trans e4).ff r2) r4 (fun w F5 H5 e hw => ⟨F5, e, hw⟩) pins s4 σ vb vc I4 rv2 rv3) fun c2 s5 ⟨w2, H5, I5, rw2, F5, e5, hw2⟩ => ?_
    subst hw2
    obtain rfl : c2 = Value.bool k2 := rw2
    refine wpAny_truthy_bool ?_
    have e5' := e1234.trans e5
    cases k2 with
    | false => exact ite_ff ⟨H5, I5, q F5 H5 e5'⟩
    | true =>
      refine ite_tt (test_last (thn (hd rfl rfl B F5 H5 σ (fun v H6 => ∃ F6, Ext F5 H5 F6 H6 ∧ m.rp X.K F6 v t) (L.step e5') (fun v F6 H6 e r => ⟨F6, e, r⟩) pins s5 I5) fun vd s6 ⟨t2, H6, I6, rv4, F6, e6, r6⟩ => ?_))
      have e6' := e5'.trans e6
      refine thn (o3 rfl rfl F6 H6 t1 t2 (fun w H7 => ∃ F7, Ext F6 H6 F7 H7 ∧ w = .bl k3) (L.step e6').same (l.mono (e5.trans e6).ff r4) r6 (fun w F7 H7 e hw => ⟨F7, e, hw⟩) pins s6 σ vc vd I6 rv3 rv4) fun c3 s7 ⟨w3, H7, I7, rw3, F7, e7, hw3⟩ => ?_
      subst hw3
      obtain rfl : c3 = Value.bool k3 := rw3
      exact wpAny_truthy_bool ⟨H7, I7, q F7 H7 (e6'.trans e7)⟩
theorem ev_all {bs : List Bool} (hm : X.mg "all" = none) (h : EV X Γ e bs) (hc : X.calm = true := by rfl) (hg : Gl X "all" := by rfl) (hs : starEach [e] X.env = (false, eval e X.env) :: starEach [] X.env := by rfl) (hpl : (backTo pos (starEach [] X.env)).any (·.1) = false := by rfl) :
    EV X Γ (.Call (.Name "all" p) [e] [] pos) (bs.all id) :=
  ev_callB1 (cr_all hc) hm (by decide +kernel) h (fun F H v Q s r q => by
    obtain ⟨ad, vs, rfl, ha, pr⟩ := r
    exact ⟨ad, bs, rfl, by rw [← Rps.bls pr]; exact sq_of s ha, q _ F H (Ext.refl s) rfl⟩) hg (by decide) (by decide) hs hpl
theorem ev_any {bs : List Bool} (hm : X.mg "any" = none) (h : EV X Γ e bs) (hc : X.calm = true := by rfl) (hg : Gl X "any" := by rfl) (hs : starEach [e] X.env = (false, eval e X.env) :: starEach [] X.env := by rfl) (hpl : (backTo pos (starEach [] X.env)).any (·.1) = false := by rfl) :
    EV X Γ (.Call (.Name "any" p) [e] [] pos) (bs.any id) :=
  ev_callB1 (cr_any hc) hm (by decide +kernel) h (fun F H v Q s r q => by
    obtain ⟨ad, vs, rfl, ha, pr⟩ := r
    exact ⟨ad, bs, rfl, by rw [← Rps.bls pr]; exact sq_of s ha, q _ F H (Ext.refl s) rfl⟩) hg (by decide) (by decide) hs hpl
theorem ev_sum {ns : List Int} (hm : X.mg "sum" = none) (h : EV X Γ e ns) (hc : X.calm = true := by rfl) (hg : Gl X "sum" := by rfl) (hs : starEach [e] X.env = (false, eval e X.env) :: starEach [] X.env := by rfl) (hpl : (backTo pos (starEach [] X.env)).any (·.1) = false := by rfl) :
    EV X Γ (.Call (.Name "sum" p) [e] [] pos) ns.sum :=
  ev_callB1 (cr_sum hc) hm (by decide +kernel) h (fun F H v Q s r q => by
    obtain ⟨ad, vs, rfl, ha, pr⟩ := r
    exact ⟨ad, ns, rfl, by rw [← Rps.ints pr]; exact sq_of s ha, q _ F H (Ext.refl s) rfl⟩) hg (by decide) (by decide) hs hpl
theorem o_ltT {x y : Tup Int} {k : Nat} (hr : Room k X.A) : OB X (compareOp .Lt) x y (HT.lexLt x.l y.l) := ob_flat (op_ltT hr.units0) fun F H v u Q s r1 r2 q => by
  obtain ⟨a1, vs, rfl, h1, p1⟩ := r1
  obtain ⟨a2, ws, rfl, h2, p2⟩ := r2
  exact ⟨a1, a2, x.l, y.l, rfl, rfl, by rw [← Rps.ints p1]; exact st_of s h1, by rw [← Rps.ints p2]; exact st_of s h2, q _ rfl⟩
/-- a, b, c, d = e, a tuple of four like things -/
theorem st_unpack4 (k1 k2 k3 k4 : Nat) {n1 n2 n3 n4 : Str} {x1 x2 x3 x4 : α} {q1 q2 q3 q4 tp : Pos} {kk} (he : EV X Γ e (Tup.mk [x1, x2, x3, x4])) (hr : ST X rest ((((Γ.set k1 (.val i x1)).set k2 (.val i x2)).set k3 (.val i x3)).set k4 (.val i x4)) E)
    (hg : PG X (.Tuple [.Name n1 q1, .Name n2 q2, .Name n3 q3, .Name n4 q4] kk tp) (gTup X.K 4 (gCons (gName k1) (gCons (gName k2) (gCons (gName k3) (gCons (gName k4) gNil))))))
    (hs : swapsWithSole [.Tuple [.Name n1 q1, .Name n2 q2, .Name n3 q3, .Name n4 q4] kk tp] e pos.line X.env = pure false := by rfl) (hw : swappedStores [.Tuple [.Name n1 q1, .Name n2 q2, .Name n3 q3, .Name n4 q4] kk tp] e X.env = pure none := by rfl)
    (h1 : (assignEach [.Tuple [.Name n1 q1, .Name n2 q2, .Name n3 q3, .Name n4 q4] kk tp] X.env).map (·.2) = [assign (.Tuple [.Name n1 q1, .Name n2 q2, .Name n3 q3, .Name n4 q4] kk tp) X.env] := by rfl) :
    ST X (.Assign [.Tuple [.Name n1 q1, .Name n2 q2, .Name n3 q3, .Name n4 q4] kk tp] e pos :: rest) Γ E := fun B F H σ D L ed =>
  WP.cons (ps_asg peW hg hs hw h1) (he B F H σ _ L fun v F1 H1 e1 r1 => by
    obtain ⟨ad, vs, rfl, ha, pr⟩ := r1
    have L1 := L.step e1
    match vs, pr with
    | [v1, v2, v3, v4], .cons p1 (.cons p2 (.cons p3 (.cons p4 .nil))) =>
      exact ⟨ad, _, rfl, st_of L1.same ha, rfl, v1, _, rfl, v2, _, rfl, v3, _, rfl, v4, _, rfl, rfl, hr B F1 H1 _ D ((((L1.putV k1 p1).putV k2 p2).putV k3 p3).putV k4 p4) (ed.weak e1.ff)⟩)
theorem pg4 (k1 k2 k3 k4 : Nat) {n1 n2 n3 n4 : Str} {q1 q2 q3 q4 tp : Pos} {kk} (hN : X.N.Nodup) (hc : X.calm = true := by rfl) (h1 : PG X (.Name n1 q1) (gName k1)) (h2 : PG X (.Name n2 q2) (gName k2)) (h3 : PG X (.Name n3 q3) (gName k3)) (h4 : PG X (.Name n4 q4) (gName k4))
    (a1 : (assignEach [.Name n1 q1, .Name n2 q2, .Name n3 q3, .Name n4 q4] X.env).map (·.2) = assign (.Name n1 q1) X.env :: (assignEach [.Name n2 q2, .Name n3 q3, .Name n4 q4] X.env).map (·.2) := by rfl)
    (a2 : (assignEach [.Name n2 q2, .Name n3 q3, .Name n4 q4] X.env).map (·.2) = assign (.Name n2 q2) X.env :: (assignEach [.Name n3 q3, .Name n4 q4] X.env).map (·.2) := by rfl)
    (a3 : (assignEach [.Name n3 q3, .Name n4 q4] X.env).map (·.2) = assign (.Name n3 q3) X.env :: (assignEach [.Name n4 q4] X.env).map (·.2) := by rfl)
    (a4 : (assignEach [.Name n4 q4] X.env).map (·.2) = assign (.Name n4 q4) X.env :: (assignEach [] X.env).map (·.2) := by rfl)
    (hn : (assignEach [.Name n1 q1, .Name n2 q2, .Name n3 q3, .Name n4 q4] X.env).length = 4 := by rfl) (hst : (assignEach [.Name n1 q1, .Name n2 q2, .Name n3 q3, .Name n4 q4] X.env).findIdx? (·.1) = none := by rfl) :
    PG X (.Tuple [.Name n1 q1, .Name n2 q2, .Name n3 q3, .Name n4 q4] kk tp) (gTup X.K 4 (gCons (gName k1) (gCons (gName k2) (gCons (gName k3) (gCons (gName k4) gNil))))) :=
  pg_tup hc (pgs_cons h1 (pgs_cons h2 (pgs_cons h3 (pgs_cons h4 pgs_nil a4) a3) a2) a1) hn hst
theorem pg2 (k1 k2 : Nat) {n1 n2 : Str} {q1 q2 tp : Pos} {kk} (h1 : PG X (.Name n1 q1) (gName k1)) (h2 : PG X (.Name n2 q2) (gName k2)) (hc : X.calm = true := by rfl)
    (a3 : (assignEach [.Name n1 q1, .Name n2 q2] X.env).map (·.2) = assign (.Name n1 q1) X.env :: (assignEach [.Name n2 q2] X.env).map (·.2) := by rfl)
    (a4 : (assignEach [.Name n2 q2] X.env).map (·.2) = assign (.Name n2 q2) X.env :: (assignEach [] X.env).map (·.2) := by rfl)
    (hn : (assignEach [.Name n1 q1, .Name n2 q2] X.env).length = 2 := by rfl) (hst : (assignEach [.Name n1 q1, .Name n2 q2] X.env).findIdx? (·.1) = none := by rfl) :
    PG X (.Tuple [.Name n1 q1, .Name n2 q2] kk tp) (gTup X.K 2 (gCons (gName k1) (gCons (gName k2) gNil))) := pg_tup hc (pgs_cons h1 (pgs_cons h2 pgs_nil a4) a3) hn hst
/-- anything -/
structure Thing where
  u : Unit
instance repThing : Rep Thing := ⟨fun _ _ _ _ => True, fun _ h => h⟩
theorem things {F : Hp} {K : PySem.W.Frag} : ∀ vs : List V, ∃ xs : List Thing, Paired (fun u x => repThing.rp K F u x) vs xs
  | [] => ⟨[], .nil⟩
  | v :: vs => let ⟨xs, h⟩ := things vs; ⟨⟨()⟩ :: xs, .cons trivial h⟩
/-- xs.append(e), whatever; the list is not known any more -/
theorem st_appendAny (k : Nat) {n : Str} {ad : Addr} {xs : List α} {P : Ret → Prop} {apos cpos : Pos} (he : EX X Γ e P) (hr : ST X rest (Γ.set k .no) E) (hz : xs.length < sizeLine) (hg : Γ[k]? = some (.lst i ad xs) := by rfl) (hN : X.N[k]? = some n := by rfl)
    (hv : Vis X.env.scope n := by first | exact Or.inl rfl | exact Or.inr (Or.inl rfl) | exact Or.inr (Or.inr rfl)) (hd : (n == ("__debug__" : Str)) = false := by decide) (hcd : (n == ("__classdict__" : Str)) = false := by decide)
    (hbase : attributeBase (.Name n p) "append" X.env (eval (.Name n p) X.env) = eval (.Name n p) X.env := by rfl)
    (hfew : ((backTo cpos (starEach [e] X.env)).all (fun x => !x.1) && (backToKw cpos (keywordEach [] X.env)).all (fun x => x.1.isSome) && decide ([e].length + ([] : List Keyword).length + (if ([] : List Keyword).isEmpty then 0 else 1) < 30)) = true := by rfl)
    (hline : (apos.endLine == cpos.line) = true := by rfl) (hs : starEach [e] X.env = (false, eval e X.env) :: starEach [] X.env := by rfl) (hplain : (backTo cpos (starEach [] X.env)).any (·.1) = false := by rfl)
    (hsw : swapsWith (.Call (.Attribute (.Name n p) "append" apos) [e] [] cpos) none pos.line X.env = pure false := by rfl) :
    ST X (.Expr (.Call (.Attribute (.Name n p) "append" apos) [e] [] cpos) pos :: rest) Γ E := fun B F H σ D L ed => by
  obtain ⟨vs, ea, fa, ba, ha, pr⟩ := slot_lst L hg
  refine WP.cons (ps_expr (pe_bm PySem.F.plainAttrs_list PySem.F.slot_list_append PySem.F.type_list_append mt_append (pe_var hN hv hd hcd) (pa_cons peW pa_nil hs) hbase hfew hline hs hplain) hsw) ?_
  refine ⟨_, ea, .inl ⟨rfl, _, .inl (.inl ha)⟩, he B F H σ _ L fun r v F1 H1 _ e1 _ => ?_⟩
  have L1 := L.step e1
  obtain ⟨vs1, _, _, _, ha1, pr1⟩ := slot_lst L1 hg
  refine ⟨ad, vs1, v, rfl, rfl, ha1, by rw [Paired.length pr1]; exact hz, ?_⟩
  obtain ⟨ts, ht⟩ := things (F := F1) (K := X.K) (vs1 ++ [v])
  have L2 := (L1.updL hg ht).le (Γ' := Γ.set k .no) ⟨by simp, fun q t e => by
    rcases get_set_slot e with ⟨_, _, rfl⟩ | ⟨n1, e⟩
    · exact .inl rfl
    · exact .inr (by rw [List.getElem?_set_ne n1]; exact e)⟩
  exact hr B F1 _ σ D L2 (ed.weak e1.ff)
end
end Tw

namespace Tw
open PySem PySem.Spec PyProof.Rows L2 TL

/-! ### what the written part says of exception classes -/
structure XCls (K : PySem.W.Frag) (n : Str) (C : Addr) : Prop where
  ns : PySem.W.nsIn K mainGlobals n = some (some (.ref C))
  kp : PySem.W.keepIn K (.ref C) = true
  ty : PySem.W.typeIn K (.ref C) = some (.type "type")
  is : ExcC K C
/-- the class of a name -/
def XC (K : PySem.W.Frag) (mg : Str → Option Value) (n : Str) : Prop := ∃ C, XCls K n C ∧ mg n = some (.ref C)
/-- .. has no __init__ of its own -/
def XPlain (K : PySem.W.Frag) (n : Str) : Prop := ∀ C, PySem.W.nsIn K mainGlobals n = some (some (.ref C)) → PySem.W.excIn K C [.type "ValueError", .type "Exception", .type "BaseException", .type "object"] "ValueError.__new__" = true
/-- class n lies under class m, or not -/
def XSub (K : PySem.W.Frag) (n m : Str) (b : Bool) : Prop := ∀ C D, PySem.W.nsIn K mainGlobals n = some (some (.ref C)) → PySem.W.nsIn K mainGlobals m = some (some (.ref D)) → PySem.W.exmOne K (.ref C) (.ref D) = some b ∧ PySem.W.kitOne K (.ref C) (.ref D) = some b
def XSubT (K : PySem.W.Frag) (n : Str) (T : String) (b : Bool) : Prop := ∀ C, PySem.W.nsIn K mainGlobals n = some (some (.ref C)) → PySem.W.kitOne K (.ref C) (.type T) = some b
/-- None is no instance of it -/
def XNone (K : PySem.W.Frag) (t : String) (m : Str) : Prop := ∀ D, PySem.W.nsIn K mainGlobals m = some (some (.ref D)) → PySem.W.kitOne K (.type t) (.ref D) = some false
theorem ns_one {K : PySem.W.Frag} {n : Str} {C D : Addr} (h1 : PySem.W.nsIn K mainGlobals n = some (some (.ref C))) (h2 : PySem.W.nsIn K mainGlobals n = some (some (.ref D))) : D = C := by
  rw [h1] at h2
  cases h2
  rfl

theorem kitOf {K : PySem.W.Frag} {t : Value} {D : Addr} {b : Bool} (ht : PySem.W.typeIn K (.ref D) = some (.type "type")) (hd : PySem.W.hasDictIn K D = true) (h : PySem.W.subIn K t (.ref D) = some b) (hb : t = .ref D → b = true) : PySem.W.kitOne K t (.ref D) = some b := by
  unfold PySem.W.kitOne
  split
  · rename_i e
    rw [hb (beq_iff_eq.mp e)]
  · obtain ⟨cd, hc, _⟩ := PySem.W.any_some hd
    show (if ((PySem.W.clsIn K D).isSome && PySem.W.typeIn K (.ref D) == some (.type "type")) = true then PySem.W.subIn K t (.ref D) else none) = some b
    rw [if_pos (by rw [hc, ht]; rfl)]
    exact h
theorem XPlain.mk {K : PySem.W.Frag} {n : Str} {C : Addr} (a : PySem.W.nsIn K mainGlobals n = some (some (.ref C))) (h : PySem.W.excIn K C [.type "ValueError", .type "Exception", .type "BaseException", .type "object"] "ValueError.__new__" = true) : XPlain K n := fun D e => ns_one a e ▸ h
theorem XSub.mk {K : PySem.W.Frag} {n m : Str} {b : Bool} {C D : Addr} (a1 : PySem.W.nsIn K mainGlobals n = some (some (.ref C))) (a2 : PySem.W.nsIn K mainGlobals m = some (some (.ref D))) (ht : PySem.W.typeIn K (.ref D) = some (.type "type")) (hs : PySem.W.subIn K (.ref D) (.type "BaseException") = some true) (hd : PySem.W.hasDictIn K D = true)
    (h : PySem.W.subIn K (.ref C) (.ref D) = some b) (hb : C = D → b = true) : XSub K n m b := fun C' D' e1 e2 => by
  obtain rfl := ns_one a1 e1
  obtain rfl := ns_one a2 e2
  exact ⟨PySem.W.exm_ref hs hd ht h, kitOf ht hd h fun e => hb (Value.ref.inj e)⟩
theorem XSubT.mk {K : PySem.W.Frag} {n : Str} {T : String} {b : Bool} {C : Addr} (hm : PySem.W.kitMeta T = true) (a : PySem.W.nsIn K mainGlobals n = some (some (.ref C))) (h : PySem.W.subIn K (.ref C) (.type T) = some b) : XSubT K n T b := fun D e => by
  obtain rfl := ns_one a e
  show (if PySem.W.kitMeta T = true then PySem.W.subIn K (.ref D) (.type T) else none) = some b
  rw [if_pos hm]
  exact h
theorem XNone.mk {K : PySem.W.Frag} {t : String} {m : Str} {D : Addr} (a : PySem.W.nsIn K mainGlobals m = some (some (.ref D))) (ht : PySem.W.typeIn K (.ref D) = some (.type "type")) (hd : PySem.W.hasDictIn K D = true) (h : PySem.W.subIn K (.type t) (.ref D) = some false) : XNone K t m := fun D' e => by
  obtain rfl := ns_one a e
  exact kitOf ht hd h fun z => nomatch z
/-! ### a caught exception as data -/
/-- a caught exception of the class cls, its dict at d -/
def ErrO (cls : Value) (d : Option Addr) (a : Addr) : HO := .ext fun h => ∃ (oe : Obj) (vs : Array Value), h.get? a = some oe ∧ Zc cls d oe ∧ oe.data = .fields vs
theorem errO_ok {P : Program} {w : World} {H : Hp} {h : Heap} {a : Addr} {cls : Value} {d : Option Addr} {oe : Obj} {vs : Array Value} (e : h.get? a = some oe) (z : Zc cls d oe) (hd : oe.data = .fields vs) : ObjOk P w H h a (ErrO cls d a) :=
  ⟨⟨oe, vs, e, z, hd⟩, ⟨oe, e⟩, fun _ _ ⟨o, v, q, r⟩ k => ⟨o, v, k o q, r⟩⟩
structure Err where
  cls : Str
structure ErrW (α : Type) where
  cls : Str
  fld : Str
  why : α
def ErrAt (K : PySem.W.Frag) (F : Hp) (v : V) (n : Str) (d : Option Addr) : Prop := ∃ a C, v = .ref a ∧ F a = some (ErrO (.ref C) d a) ∧ PySem.W.nsIn K mainGlobals n = some (some (.ref C))
instance repErr : Rep Err := ⟨fun K F v x => ErrAt K F v x.cls none, fun s ⟨a, C, e, h, n⟩ => ⟨a, C, e, s _ _ h, n⟩⟩
instance repErrW {α : Type} [i : Rep α] : Rep (ErrW α) := ⟨fun K F v x => ∃ dx w, ErrAt K F v x.cls (some dx) ∧ F dx = some (.xd [(x.fld, w)]) ∧ i.rp K F w x.why,
  fun s ⟨dx, w, ⟨a, C, e, h, n⟩, h2, r⟩ => ⟨dx, w, ⟨a, C, e, s _ _ h, n⟩, s _ _ h2, i.mono s r⟩⟩
def Exn.slot (x : Exn) : Slot := match x.why with
  | .no => .val repErr ⟨x.cls⟩
  | .val i y => .val (@repErrW _ i) ⟨x.cls, x.fld, y⟩
  | .own _ => .no
class IsErr (α : Type) [i : Rep α] where
  cls : α → Str
  at_ : ∀ {K F v x}, i.rp K F v x → ∃ d, ErrAt K F v (cls x) d ∧ ∀ dx, d = some dx → ∃ fs, F dx = some (.xd fs)
instance : IsErr Err := ⟨fun x => x.cls, fun h => ⟨none, h, fun _ z => nomatch z⟩⟩
instance {α : Type} [i : Rep α] : IsErr (ErrW α) := ⟨fun x => x.cls, fun ⟨dx, w, h, h2, _⟩ => ⟨some dx, h, fun d e => by cases e; exact ⟨_, h2⟩⟩⟩

section
open PySem.W
variable {prog : Program} {w : World} {A : Around} {E : Value → Shared → Prop} {s : Shared} {K : Frag} {x D : Addr} {ox : Obj} {od : Option Obj}
theorem findObj_dataD {C : Addr} {name : Str} {a g : Value} (hc : (clsIn K C).isSome = true) (ha : findIn K (.ref C) name = some (some a)) (hg : specialIn K a "__get__" = some (some g)) (ht : takesIn K a = some true) : findObj K C od name = some (.bind g a) := by
  obtain ⟨cd, hc⟩ := Option.isSome_iff_exists.mp hc
  unfold findObj
  rw [hc, Option.bind_some, ha, Option.bind_some]
  simp [hg, ht]
theorem kin_classD {Q : Option Value → Shared → Prop} (T : L2.ExcC K D) (X : K.In s.heap) (I : InstAt s.heap x ox D od) (h : Q (some (.ref D)) { s with toks := s.toks + 1 }) : wpAny (model prog w) A (getAttr? (.ref x) "__class__") Q E s := by
  have hf : findObj K D od "__class__" = some (.bind (.builtin "getset_descriptor.__get__") (.builtin "object.__class__")) := findObj_dataD (by obtain ⟨cd, hc, _⟩ := any_some T.hd; rw [hc]; rfl) T.ha T.hn T.ht
  obtain ⟨hp, g, d, t, os⟩ := s
  have L0 := I.type (M := model prog w)
  have L1 := looks_findIn (M := model prog w) X T.hg
  have L2 := looks_findIn (M := model prog w) X T.hk
  have L3 := looks_find (M := model prog w) X I hf
  have sub : Looks (model prog w) hp (isInstance (.ref x) (.type "BaseException")) true := L0.andThen (looks_subIn X T.hs)
  have hx0 : (false && onTheHeap (Value.builtin "BaseException.__getattribute__")) = false := rfl
  have hx2 : (Value.builtin "BaseException.__getattribute__" == Value.builtin "object.__getattribute__") = false := by decide +kernel
  have hx1 : (onTheHeap (Value.ref D) && Value.builtin "BaseException.__getattribute__" == Value.builtin "object.__getattribute__") = false := by rw [hx2]; rfl
  unfold getAttr? getAttrBy? getAttrBy
  refine wpAny_bind (wpAny_mkText (wpAny_bind (wpAny_attempt (wpAny_holding (wpAny_bind (L0.at (wpAny_bind (L1.at ?_))))))))
  show wpAny _ _ (if (onTheHeap (Value.ref D) && Value.builtin "BaseException.__getattribute__" == Value.builtin "object.__getattribute__") = true then _ else _) _ _ _
  rw [hx1, if_neg Bool.false_ne_true]
  unfold getAttrByItsOwn hookBefore
  refine wpAny_bind ?_
  rw [if_pos (show onTheHeap (Value.ref D) = true from rfl)]
  refine L2.at ?_
  refine wpAny_bind (wpAny_attempt (wpAny_holding ?_))
  unfold callGetattribute
  rw [hx0, if_neg Bool.false_ne_true]
  unfold boundAndCalled
  rw [PySem.F.excAttr_ValueError.ga.bind (.ref x)]
  refine wpAny_bind (wpAny_pure ?_)
  show wpAny _ _ (call (.builtin "BaseException.__getattribute__") [.ref x, .str "__class__" t]) _ _ _
  refine wpAny_call (codeAny_call_builtin PySem.F.excAttr_ValueError.ga.plain PySem.F.entry_bexc_ga ?_)
  refine @check_slot (model prog w) _ _ ⟨hp, g, d, t + 1, os⟩ "BaseException.__getattribute__" "BaseException" "__getattribute__" (.ref x) [.str "__class__" t] [] _ (by decide +kernel) (by decide +kernel) sub (PySem.F.args_bexc_ga (.ref x) (.str "__class__" t)) ?_
  unfold Builtin.«object.__getattribute__»
  refine wpAny_bind (wpAny_of_eq (a := ((Value.ref x : Value), [Value.str "__class__" t])) (by first | rfl | (simp only [slotArgs]; rfl)) ?_)
  refine wpAny_bind (wpAny_pure (wpAny_bind (L0.at (wpAny_bind (L3.at ?_)))))
  show wpAny _ _ (holding [Value.builtin "object.__class__"] (call (.builtin "getset_descriptor.__get__") [.builtin "object.__class__", .ref x, .ref D]) >>= ret) _ _ _
  refine wpAny_bind (wpAny_holding (wpAny_call (class_get (s := ⟨hp, g, d, t + 1, os⟩) (ox := ox) (od := od) X I T.hm ?_)))
  refine wpAny_pure ?_
  show wpAny _ _ (handedOut (.ref D)) _ _ _
  rw [handedOut_of (v := .ref D) rfl]
  first
    | exact wpAny_pure (wpAny_pure h)
    | exact wpAny_pure h
    | exact wpAny_pure (wpAny_bind (wpAny_pure (wpAny_pure h)))
theorem kitx_err (T : L2.ExcC K D) : KitX K (.ref x) (.ref D) (fun h => ∃ ox od, InstAt h x ox D od) where
  ty := fun _ _ _ ⟨_, _, I⟩ => I.type
  it := fun _ _ X _ => by
    obtain ⟨cdD, hcD, _⟩ := any_some T.hd
    unfold clsIn at hcD
    split at hcD
    · rename_i c' d' cd' sl' ho
      intro A' Q' E' s' k q
      unfold isType loadHead
      exact wpAny_bind (wpAny_loadPart (k _ _ (X _ _ ho)) (wpAny_pure q))
    · cases hcD
  ne := fun h tp dd its n sl X htp => by
    obtain ⟨cdD, hcD, _⟩ := any_some T.hd
    refine Bool.eq_false_iff.mpr fun q => ?_
    have e : D = tp := Value.ref.inj (beq_iff_eq.mp q)
    subst e
    unfold clsIn at hcD
    split at hcD
    · rename_i c' d' cd' sl' ho
      have z := (X _ _ ho).symm.trans htp
      cases z
    · cases hcD
  ca := fun X ⟨_, _, I⟩ k => kin_classD T X I k
end
section
variable {X : Cx} {pins : List (Addr × Obj)} {σ : L2.St} {H : Hp} {s : Shared}
theorem err_inst {a C : Addr} {d : Option Addr} (I : Inv X pins σ H s) (ha : H a = some (ErrO (.ref C) d a)) (hd : ∀ dx, d = some dx → ∃ fs, H dx = some (.xd fs)) : ∃ ox od, PySem.W.InstAt s.heap a ox C od := by
  have x : ObjOk X.prog X.w H s.heap a (ErrO (.ref C) d a) := I.hok a _ ha
  obtain ⟨⟨oe, vs, hget, hz, hv⟩, _⟩ := x
  have no : PySem.W.notCls oe = true := by unfold PySem.W.notCls; rw [hv] <;> rfl
  cases d with
  | none => exact ⟨oe, none, hget, hz.1, no, by rw [hz.2]; trivial⟩
  | some dx =>
    obtain ⟨fs, ed⟩ := hd dx rfl
    have hx : ObjOk X.prog X.w H s.heap dx (.xd fs) := I.hok dx _ ed
    obtain ⟨mA, hns, hr⟩ := hx
    obtain ⟨od, ho, hl⟩ := lookIn_ns hns
    exact ⟨oe, some od, hget, hz.1, no, by rw [hz.2]; exact ho⟩
/-- isinstance(e, c), e a caught exception -/
def rIsErr (K : PySem.W.Frag) : List V → Hp → VK → Prop := fun xs H Q => ∃ (a C : Addr) (d : Option Addr) (c : V) (u : Value) (b : Bool), xs = [.ref a, c] ∧ H a = some (ErrO (.ref C) d a) ∧ (∀ dx, d = some dx → ∃ fs, H dx = some (.xd fs)) ∧ ExcC K C ∧ ClsV c u ∧ PySem.W.kitOne K (.ref C) u = some b ∧ Q (.bl b) H
theorem call_isErr : CallR X (.builtin "isinstance") (rIsErr X.K) := by
  intro pins s σ H xs us Q I r h
  obtain ⟨a, C, d, c, u, b, rfl, ha, hd, T, k, e, q⟩ := h
  obtain ⟨u1, u2, rfl, r1, r2⟩ := vals2 r
  have e2 := k.eq r2
  subst e2
  obtain rfl : u1 = Value.ref a := r1
  exact PySem.W.kia_one (kitx_err T) I.kIn (err_inst I ha hd) e (fun z => nomatch z) fun tk => ⟨.bl b, H, I.tok tk, rfl, q⟩
/-- .., a tuple of classes -/
def rIsErrT (K : PySem.W.Frag) : List V → Hp → VK → Prop := fun xs H Q => ∃ (a C : Addr) (d : Option Addr) (tp : Addr) (cs : List V) (us : List Value) (b : Bool), xs = [.ref a, .ref tp] ∧ H a = some (ErrO (.ref C) d a) ∧ (∀ dx, d = some dx → ∃ fs, H dx = some (.xd fs)) ∧ ExcC K C ∧ H tp = some (.tup cs) ∧ Paired ClsV cs us ∧ PySem.W.kitAny K (.ref C) us = some b ∧ Q (.bl b) H
theorem call_isErrT : CallR X (.builtin "isinstance") (rIsErrT X.K) := by
  intro pins s σ H xs us Q I r h
  obtain ⟨a, C, d, tp, cs, ws, b, rfl, ha, hd, T, hT, k, e, q⟩ := h
  obtain ⟨u1, u2, rfl, r1, r2⟩ := vals2 r
  cases (show u2 = Value.ref tp from r2)
  obtain rfl : u1 = Value.ref a := r1
  obtain ⟨_, its, rv, o, h1, h2, n, h3⟩ := (show ObjOk X.prog X.w H s.heap tp (.tup cs) from I.hok tp _ hT)
  have e3 := ClsV.all k rv
  subst e3
  obtain ⟨oc, od, dt, sl⟩ := o
  simp only at h2 h3
  subst h2 h3
  exact PySem.W.kia_tup (kitx_err T) I.kIn (err_inst I ha hd) h1 e (fun z => nomatch z) fun tk => ⟨.bl b, H, I.tok tk, rfl, q⟩
end
end Tw

namespace Tw
open PySem PySem.Spec PyProof.Rows L2 TL

section
variable {X : Cx} {Γ : List Slot} {α β γ : Type} {i : Rep α} {j : Rep β} {l : Rep γ} {pos p p2 : Pos} {e a b c elt tg it : Expr} {es : List Expr} {E : SE} {rest body : List Stmt}

/-! ### questions about caught exceptions -/
theorem ev_isiE {α : Type} [i : Rep α] [t : IsErr α] {x : α} {n c : Str} {k : Bool} (hm : X.mg "isinstance" = none) (hx : XC X.K X.mg n) (hc : XC X.K X.mg c) (hk : XSub X.K n c k) (h : EV X Γ e x) (hn : t.cls x = n := by rfl) (hg : Gl X "isinstance" := by rfl) (hgT : Gl X c := by rfl) (hdT : (c == ("__debug__" : Str)) = false := by decide)
    (hs : starEach [e, .Name c p2] X.env = (false, eval e X.env) :: starEach [.Name c p2] X.env := by rfl) (hs2 : starEach [.Name c p2] X.env = (false, eval (.Name c p2) X.env) :: starEach [] X.env := by rfl) (hpl : (backTo pos (starEach [.Name c p2] X.env)).any (·.1) = false := by rfl) :
    EV X Γ (.Call (.Name "isinstance" p) [e, .Name c p2] [] pos) k := fun B F H σ Q L q => by
  obtain ⟨D, xD, gD⟩ := hc
  obtain ⟨C, xC, gC⟩ := hx
  refine WE.of (pe_callB call_isErr hg hm (by decide +kernel) (pa_cons peW (pa_cons (pe_glob (v := .ref D) hgT gD rfl hdT) pa_nil hs2) hs) (by decide) (by decide) hs hpl) (h B F H σ _ L fun v F1 H1 e1 r1 => ?_)
  obtain ⟨d, ⟨ad, C', rfl, ha, hC⟩, hd⟩ := t.at_ r1
  rw [hn] at hC
  obtain rfl := ns_one xC.ns hC
  have s1 := (L.step e1).same
  exact ⟨ad, C', d, .ref D, .ref D, k, rfl, s1 _ _ ha, fun dx z => by obtain ⟨fs, y⟩ := hd dx z; exact ⟨fs, s1 _ _ y⟩, xC.is, .own D, (hk C' D xC.ns xD.ns).2, q _ F1 H1 e1 rfl⟩
theorem ev_isiEB {α : Type} [i : Rep α] [t : IsErr α] {x : α} {n : Str} (T : String) {k : Bool} (hm : X.mg "isinstance" = none) (hmT : X.mg (Str.ofString T) = none) (hx : XC X.K X.mg n) (hk : XSubT X.K n T k) (h : EV X Γ e x) (hn : t.cls x = n := by rfl) (hvT : bootBuiltins (Str.ofString T) = some (.type T) := by decide +kernel) (hg : Gl X "isinstance" := by rfl) (hgT : Gl X (Str.ofString T) := by rfl)
    (hnT : Str.ofString T ≠ "__name__" := by decide) (hdT : (Str.ofString T == ("__debug__" : Str)) = false := by decide)
    (hs : starEach [e, .Name (Str.ofString T) p2] X.env = (false, eval e X.env) :: starEach [.Name (Str.ofString T) p2] X.env := by rfl) (hs2 : starEach [.Name (Str.ofString T) p2] X.env = (false, eval (.Name (Str.ofString T) p2) X.env) :: starEach [] X.env := by rfl) (hpl : (backTo pos (starEach [.Name (Str.ofString T) p2] X.env)).any (·.1) = false := by rfl) :
    EV X Γ (.Call (.Name "isinstance" p) [e, .Name (Str.ofString T) p2] [] pos) k := fun B F H σ Q L q => by
  obtain ⟨C, xC, gC⟩ := hx
  refine WE.of (pe_callB call_isErr hg hm (by decide +kernel) (pa_cons peW (pa_cons (pe_bltn (v := .ty T) hgT hmT hvT rfl hnT hdT) pa_nil hs2) hs) (by decide) (by decide) hs hpl) (h B F H σ _ L fun v F1 H1 e1 r1 => ?_)
  obtain ⟨d, ⟨ad, C', rfl, ha, hC⟩, hd⟩ := t.at_ r1
  rw [hn] at hC
  obtain rfl := ns_one xC.ns hC
  have s1 := (L.step e1).same
  exact ⟨ad, C', d, .ty T, .type T, k, rfl, s1 _ _ ha, fun dx z => by obtain ⟨fs, y⟩ := hd dx z; exact ⟨fs, s1 _ _ y⟩, xC.is, .ty T, hk C' xC.ns, q _ F1 H1 e1 rfl⟩
/-- names of classes in a row -/
def ECs (X : Cx) (es : List Expr) (cs : List Str) : Prop := ∀ σ H Q, (∀ vs, Paired (fun v c => ∃ D, v = V.ref D ∧ PySem.W.nsIn X.K mainGlobals c = some (some (.ref D))) vs cs → Q vs H) → WA X es σ H Q
theorem ec_nil : ECs X [] [] := fun σ H Q q => WA.of pa_nil (q [] .nil)
theorem ec_cons {n : Str} {cs : List Str} (hc : XC X.K X.mg n) (hr : ECs X es cs) (hg : Gl X n := by rfl) (hd : (n == ("__debug__" : Str)) = false := by decide) (hs : starEach (.Name n p :: es) X.env = (false, eval (.Name n p) X.env) :: starEach es X.env := by rfl) : ECs X (.Name n p :: es) (n :: cs) := fun σ H Q q => by
  obtain ⟨D, xD, gD⟩ := hc
  exact WA.of (pa_cons (pe_glob (v := .ref D) hg gD rfl hd) paW hs) (hr σ H _ fun vs h => q (.ref D :: vs) (.cons ⟨D, rfl, xD.ns⟩ h))
theorem clsvs {K : PySem.W.Frag} {n : Str} {C : Addr} (hC : PySem.W.nsIn K mainGlobals n = some (some (.ref C))) : ∀ {vs : List V} {cs : List Str}, Paired (fun v c => ∃ D, v = V.ref D ∧ PySem.W.nsIn K mainGlobals c = some (some (.ref D))) vs cs → (∀ c ∈ cs, XSub K n c false) →
    ∃ us, Paired ClsV vs us ∧ PySem.W.kitAny K (.ref C) us = some false
  | _, _, .nil, _ => ⟨[], .nil, kitAny_nil⟩
  | _, _, .cons (a := v) (b := c) ⟨D, e, hD⟩ t, hk => by
    obtain ⟨us, p, h⟩ := clsvs hC t fun c hc => hk c (List.mem_cons_of_mem _ hc)
    subst e
    exact ⟨.ref D :: us, .cons (.own D) p, kitAny_cons (hk _ (List.mem_cons_self ..) C D hC hD).2 (fun _ => h) (fun z => nomatch z)⟩
/-- isinstance(e, (c1, c2, ..)), e of none of them -/
theorem ev_isiEF {α : Type} [i : Rep α] [t : IsErr α] {x : α} {n : Str} {cs : List Str} {x1} (hm : X.mg "isinstance" = none) (hx : XC X.K X.mg n) (hc : ECs X es cs) (hk : ∀ c ∈ cs, XSub X.K n c false) (h : EV X Γ e x) (hz : cs.length ≤ 1000 := by decide) (hn : t.cls x = n := by rfl) (hg : Gl X "isinstance" := by rfl)
    (hs : starEach [e, .Tuple es x1 p2] X.env = (false, eval e X.env) :: starEach [.Tuple es x1 p2] X.env := by rfl) (hs2 : starEach [.Tuple es x1 p2] X.env = (false, eval (.Tuple es x1 p2) X.env) :: starEach [] X.env := by rfl) (hpl : (backTo pos (starEach [.Tuple es x1 p2] X.env)).any (·.1) = false := by rfl) :
    EV X Γ (.Call (.Name "isinstance" p) [e, .Tuple es x1 p2] [] pos) false := fun B F H σ Q L q => by
  obtain ⟨C, xC, gC⟩ := hx
  refine WE.of (pe_callB call_isErrT hg hm (by decide +kernel) (pa_cons peW (pa_cons (pe_tup paW) pa_nil hs2) hs) (by decide) (by decide) hs hpl) (h B F H σ _ L fun v F1 H1 e1 r1 => hc σ H1 _ fun vs pr => ⟨by rw [Paired.length pr]; exact sl_small hz, fun tp htp => ?_⟩)
  obtain ⟨d, ⟨ad, C', rfl, ha, hC⟩, hd⟩ := t.at_ r1
  rw [hn] at hC
  obtain rfl := ns_one xC.ns hC
  have s1 := (L.step e1).same
  obtain ⟨us, pu, hu⟩ := clsvs xC.ns pr hk
  have ea := Ext.new (o := .tup vs) s1 htp
  have s2 : Same F1 (upd H1 tp (.tup vs)) := ea.ff.trans ea.fh
  exact ⟨ad, C', d, tp, vs, us, false, rfl, s2 _ _ ha, fun dx z => by obtain ⟨fs, y⟩ := hd dx z; exact ⟨fs, s2 _ _ y⟩, xC.is, upd_same, pu, hu, q _ _ _ (e1.trans ea) rfl⟩
/-- isinstance(None, c) is False -/
theorem ev_isiN {c : Str} (hm : X.mg "isinstance" = none) (hc : XC X.K X.mg c) (hk : XNone X.K "NoneType" c) (h : EV X Γ e ()) (hg : Gl X "isinstance" := by rfl) (hgT : Gl X c := by rfl) (hdT : (c == ("__debug__" : Str)) = false := by decide)
    (hs : starEach [e, .Name c p2] X.env = (false, eval e X.env) :: starEach [.Name c p2] X.env := by rfl) (hs2 : starEach [.Name c p2] X.env = (false, eval (.Name c p2) X.env) :: starEach [] X.env := by rfl) (hpl : (backTo pos (starEach [.Name c p2] X.env)).any (·.1) = false := by rfl) :
    EV X Γ (.Call (.Name "isinstance" p) [e, .Name c p2] [] pos) false := fun B F H σ Q L q => by
  obtain ⟨D, xD, gD⟩ := hc
  refine WE.of (pe_callB call_isi hg hm (by decide +kernel) (pa_cons peW (pa_cons (pe_glob (v := .ref D) hgT gD rfl hdT) pa_nil hs2) hs) (by decide) (by decide) hs hpl) (h B F H σ _ L fun v F1 H1 e1 r1 => ?_)
  obtain rfl : v = .non := r1
  exact ⟨.non, .ref D, .type "NoneType", .ref D, false, rfl, .own D, .base .non, hk D xD.ns, q _ F1 H1 e1 rfl⟩
/-- the field of a caught exception -/
theorem pe_xfH {te : TE} {n : Str} (he : PE X e te) (hb : attributeBase e n X.env (eval e X.env) = eval e X.env := by rfl) : PE X (.Attribute e n pos) (fun σ H Q => te σ H fun x H1 => ∃ (a C dx : Addr) (fs : List (Str × V)) (v : V), x = .ref a ∧ H1 a = some (ErrO (.ref C) (some dx) a) ∧ H1 dx = some (.xd fs) ∧ ExcC X.K C ∧ PySem.W.findIn X.K (.ref C) n = some none ∧ fs.lookup n = some v ∧ Q v H1) := by
  refine ⟨fun pins s σ H Q I h => ?_⟩
  refine attr_of hb (thn (he.run pins s σ H _ I h) fun u s1 hh => ?_)
  obtain ⟨x, H1, I1, rx, ad, C, dx, fs, v, ex, ha, hd, T, hno, l, q⟩ := hh
  subst ex
  obtain rfl : u = Value.ref ad := rx
  have x : ObjOk X.prog X.w H1 s1.heap ad (ErrO (.ref C) (some dx) ad) := I1.hok ad _ ha
  obtain ⟨⟨oe, vs, hget, hz, hv⟩, _⟩ := x
  have no : PySem.W.notCls oe = true := by unfold PySem.W.notCls; rw [hv] <;> rfl
  have hx : ObjOk X.prog X.w H1 s1.heap dx (.xd fs) := I1.hok dx _ hd
  obtain ⟨mA, hns, hr⟩ := hx
  obtain ⟨od, ho, hl⟩ := lookIn_ns hns
  obtain ⟨u, hu, ru⟩ := RelO.some_of (v := v) (o := mA n) (by rw [← l]; exact hr n)
  have J : PySem.W.InstAt s1.heap ad oe C (some od) := ⟨hget, hz.1, no, by rw [hz.2]; exact ho⟩
  exact HandSPX.exc_get I1.kIn J T.hg T.hk T.hs (PySem.W.findObj_own T.hd hno rfl (by rw [hl, hu])) (handed_of ru) ⟨v, H1, I1.tok _, ru, q⟩
def XFld (K : PySem.W.Frag) (n f : Str) : Prop := ∀ C, PySem.W.nsIn K mainGlobals n = some (some (.ref C)) → PySem.W.findIn K (.ref C) f = some none
theorem ev_errW {α : Type} [i : Rep α] {x : ErrW α} {n f : Str} (hx : XC X.K X.mg n) (hf : XFld X.K n f) (h : EV X Γ e x) (hn : x.cls = n := by rfl) (hfx : x.fld = f := by rfl) (hb : attributeBase e f X.env (eval e X.env) = eval e X.env := by rfl) : EV X Γ (.Attribute e f pos) x.why := fun B F H σ Q L q =>
  WE.of (pe_xfH peW hb) (h B F H σ _ L fun v F1 H1 e1 r1 => by
    obtain ⟨C, xC, gC⟩ := hx
    obtain ⟨dx, w, ⟨ad, C', rfl, ha, hC⟩, hd, r⟩ := r1
    rw [hn] at hC
    obtain rfl := ns_one xC.ns hC
    have s1 := (L.step e1).same
    exact ⟨ad, C', dx, _, w, rfl, s1 _ _ ha, s1 _ _ hd, xC.is, hf C' xC.ns, by rw [hfx]; simp [List.lookup], q w F1 H1 e1 r⟩)

/-! ### is None -/
class NonN (α : Type) [i : Rep α] : Prop where
  nn : ∀ {K F v} {x : α}, i.rp K F v x → v ≠ .non
instance : NonN Int := ⟨fun {_ _ v x} h z => by obtain rfl : v = .int x := h; cases z⟩
instance : NonN Bool := ⟨fun {_ _ v x} h z => by obtain rfl : v = .bl x := h; cases z⟩
instance : NonN (List Nat) := ⟨fun {_ _ v x} h z => by obtain rfl : v = .str (sx x) := h; cases z⟩
instance {α : Type} [i : Rep α] : NonN (List α) := ⟨fun h z => by obtain ⟨a, vs, rfl, _⟩ := h; cases z⟩
instance {α : Type} [i : Rep α] : NonN (Tup α) := ⟨fun h z => by obtain ⟨a, vs, rfl, _⟩ := h; cases z⟩
instance {α β : Type} [i : Rep α] [j : Rep β] : NonN (α × β) := ⟨fun h z => by obtain ⟨a, u, w, rfl, _⟩ := h; cases z⟩
instance : NonN Err := ⟨fun h z => by obtain ⟨a, u, rfl, _⟩ := h; cases z⟩
instance {α : Type} [i : Rep α] : NonN (ErrW α) := ⟨fun h z => by obtain ⟨a, u, ⟨_, _, rfl, _⟩, _⟩ := h; cases z⟩
theorem o_isNo {x : α} [NonN α] : OB X (compareOp .Is) x () false := ob_flat op_isN fun F H v u Q s r1 r2 q => ⟨r2, by
  rw [decide_eq_false (NonN.nn r1)]
  exact q _ rfl⟩
theorem o_notNo {x : α} [NonN α] : OB X (compareOp .IsNot) x () true := ob_flat op_notN fun F H v u Q s r1 r2 q => ⟨r2, by
  rw [decide_eq_false (NonN.nn r1)]
  exact q _ rfl⟩
theorem o_isU : OB X (compareOp .Is) () () true := ob_flat op_isN fun F H v u Q s r1 r2 q => ⟨r2, by
  obtain rfl : v = .non := r1
  exact q _ rfl⟩
theorem o_notU : OB X (compareOp .IsNot) () () false := ob_flat op_notN fun F H v u Q s r1 r2 q => ⟨r2, by
  obtain rfl : v = .non := r1
  exact q _ rfl⟩
theorem o_isO {x : Option α} [NonN α] : OB X (compareOp .Is) x () x.isNone := by
  cases x with
  | none => exact fun F H v u Q s r1 r2 => o_isU F H v u Q s r1 r2
  | some x => exact fun F H v u Q s r1 r2 => o_isNo (x := x) F H v u Q s r1 r2
theorem o_notO {x : Option α} [NonN α] : OB X (compareOp .IsNot) x () x.isSome := by
  cases x with
  | none => exact fun F H v u Q s r1 r2 => o_notU F H v u Q s r1 r2
  | some x => exact fun F H v u Q s r1 r2 => o_notNo (x := x) F H v u Q s r1 r2
theorem ev_un {x : α} (h : EV X Γ e (some x)) : EV X Γ e x := fun B F H σ Q L q => h B F H σ Q L fun v F' H' ex r => q v F' H' ex r
theorem ev_unN (h : EV X Γ e (none : Option α)) : EV X Γ e () := fun B F H σ Q L q => h B F H σ Q L fun v F' H' ex r => q v F' H' ex r
/-! ### expressions that may raise -/
def EXX (X : Cx) (Γ : List Slot) (e : Expr) (P : Ret → Prop) (R : Exn → Prop) : Prop :=
  ∀ B F H σ Q, Lc X.K B F H σ Γ → (∀ r v F' H', P r → Ext F H F' H' → ROk X.K (Nw H) F' H' v r → Q v H') → (∀ x u d F' H', R x → Ext F H F' H' → XOk X.K H F' H' u d x → XW X u d σ H') → WE X e σ H Q
theorem exx_of (h : EX X Γ e P) {R : Exn → Prop} : EXX X Γ e P R := fun B F H σ Q L q _ => h B F H σ Q L q
theorem exx_call {n : Str} {k : Nat} {ps : List Str} {S : Spec} {A : List Slot} {P : Ret → Prop} {R : Exn → Prop} (G : Has X.prog X.w X.K X.mg X.base k n ps S) (hr : Room k X.A) (ha : EA X Γ (e :: es) A)
    (hS : ∀ P' R', (∀ r, P r → P' r) → (∀ x, R x → R' x) → S A P' R') (hg : Gl X n := by rfl) (hd : (n == ("__debug__" : Str)) = false := by decide)
    (he : starEach (e :: es) X.env = (false, eval e X.env) :: starEach es X.env := by rfl) (hpl : (backTo pos (starEach es X.env)).any (·.1) = false := by rfl) : EXX X Γ (.Call (.Name n p) (e :: es) [] pos) P R := fun B F H σ Q L q z => by
  obtain ⟨f, fd, hm, hk, hb, G⟩ := G.ex
  refine WE.of (pe_callS (E := fun σ cls d H => XW X cls d σ H) G hr hg hm hk hb (fun σ => passAt takesW σ) paW hd he hpl) (ha B F H σ _ L fun vs F1 H1 e1 r1 => ?_)
  have old : ∀ a, H1 a = none → H a = none := fun a h => e1.hs.free h
  exact ⟨F1, A, (L.step e1).same, r1.toO, r1.apart, hS _ _ (fun r hr v F2 H2 e2 ok => q r v F2 H2 hr (e1.thenM e2 fun _ m => (r1.ma m).elim) (ok.imp fun b h => e1.hs.free (h.elim id fun m => (r1.ma m).elim))) fun x hx u d F2 H2 e2 ok => z x u d F2 H2 hx (e1.thenM e2 fun _ m => (r1.ma m).elim) (ok.old old)⟩
theorem st_setX (k : Nat) {n : Str} {x : α} {R : Exn → Prop} (he : EXX X Γ e (fun r => r = .val i x) R) (hr : ST X rest (Γ.set k (.val i x)) E) (hR : ∀ x, R x → E.ex Γ x) (hN : X.N.Nodup) (hi : X.N[k]? = some n := by rfl) (hx : L2.Loc X.env.scope n := by first | exact Or.inl rfl | exact Or.inr rfl)
    (hs : swapsWith e (some (.Name n p)) pos.line X.env = pure false := by rfl) (hf : X.fn n = true ∨ X.env.scope.names.lookup n = some .local := by first | exact .inl rfl | exact .inr rfl) : ST X (.Assign [.Name n p] e pos :: rest) Γ E := fun B F H σ D L ed =>
  WP.cons (ps_set hN hi hx peW hs hf) (he B F H σ _ L (fun r v F1 H1 er e1 r1 => by subst er; exact hr B F1 H1 _ D ((L.step e1).putV k r1) (ed.weak e1.ff)) fun x u d F1 H1 hx e1 ok => ed.ex F H F1 H1 σ Γ x u d (Same.refl F) (hR x hx) L e1 ok)
theorem st_setXN (k : Nat) {n : Str} {xs : List α} {R : Exn → Prop} (he : EXX X Γ e (fun r => r = .new i xs) R) (hr : ∀ ad, ST X rest (Γ.set k (.lst i ad xs)) E) (hR : ∀ x, R x → E.ex Γ x) (hN : X.N.Nodup) (hi : X.N[k]? = some n := by rfl) (hx : L2.Loc X.env.scope n := by first | exact Or.inl rfl | exact Or.inr rfl)
    (hs : swapsWith e (some (.Name n p)) pos.line X.env = pure false := by rfl) (hf : X.fn n = true ∨ X.env.scope.names.lookup n = some .local := by first | exact .inl rfl | exact .inr rfl) : ST X (.Assign [.Name n p] e pos :: rest) Γ E := fun B F H σ D L ed =>
  WP.cons (ps_set hN hi hx peW hs hf) (he B F H σ _ L (fun r v F1 H1 er e1 r1 => by
    subst er
    obtain ⟨ad, vs, rfl, ha, fa, h1, pr⟩ := r1
    exact hr ad B F1 H1 _ D (L.putL k e1 ha fa h1 pr) (ed.weak e1.ff)) fun x u d F1 H1 hx e1 ok => ed.ex F H F1 H1 σ Γ x u d (Same.refl F) (hR x hx) L e1 ok)
/-- it raises, whatever -/
theorem st_setR (k : Nat) {n : Str} {R : Exn → Prop} (he : EXX X Γ e (fun _ => False) R) (hR : ∀ x, R x → E.ex Γ x) (hN : X.N.Nodup) (hi : X.N[k]? = some n := by rfl) (hx : L2.Loc X.env.scope n := by first | exact Or.inl rfl | exact Or.inr rfl)
    (hs : swapsWith e (some (.Name n p)) pos.line X.env = pure false := by rfl) (hf : X.fn n = true ∨ X.env.scope.names.lookup n = some .local := by first | exact .inl rfl | exact .inr rfl) : ST X (.Assign [.Name n p] e pos :: rest) Γ E := fun B F H σ D L ed =>
  WP.cons (ps_set hN hi hx peW hs hf) (he B F H σ _ L (fun r v F1 H1 er e1 r1 => er.elim) fun x u d F1 H1 hx e1 ok => ed.ex F H F1 H1 σ Γ x u d (Same.refl F) (hR x hx) L e1 ok)
theorem st_retX {P : Ret → Prop} {R : Exn → Prop} (he : EXX X Γ e P R) (hP : ∀ r, P r → E.rt r) (hR : ∀ x, R x → E.ex Γ x) : ST X (.Return (some e) pos :: rest) Γ E := fun B F H σ D L ed =>
  WP.cons (ps_ret peW) (he B F H σ _ L (fun r v F1 H1 hr e1 ok => ed.rt r v F1 H1 (hP r hr) (L.step e1).ext (ok.imp fun b h => L.nw h)) fun x u d F1 H1 hx e1 ok => ed.ex F H F1 H1 σ Γ x u d (Same.refl F) (hR x hx) L e1 ok)
theorem st_dropX {P : Ret → Prop} {R : Exn → Prop} (he : EXX X Γ e P R) (hr : ST X rest Γ E) (hR : ∀ x, R x → E.ex Γ x) (hs : swapsWith e none pos.line X.env = pure false := by rfl) : ST X (.Expr e pos :: rest) Γ E := fun B F H σ D L ed =>
  WP.cons (ps_expr peW hs) (he B F H σ _ L (fun r v F1 H1 _ e1 _ => hr B F1 H1 σ D (L.step e1) (ed.weak e1.ff)) fun x u d F1 H1 hx e1 ok => ed.ex F H F1 H1 σ Γ x u d (Same.refl F) (hR x hx) L e1 ok)

/-! ### raise -/
theorem raisesX {n : Str} {C : Addr} (x : XCls X.K n C) : Raises X (.ref C) := raises_own x.is.hs x.ty
/-- raise X('..') -/
theorem st_raise0 {n m : Str} {j : Nat} {p1 p3 : Pos} (hc : XC X.K X.mg n) (hp : XPlain X.K n) (hE : E.ex Γ ⟨n, "", .no⟩) (hcalm : X.calm = true := by rfl) (hg : Gl X n := by rfl) (hdb : (n == ("__debug__" : Str)) = false := by decide) :
    ST X (.Raise (some (.Call (.Name n p) [.Constant (.str m) j p2] [] p1)) none p3 :: rest) Γ E := fun B F H σ D L ed => by
  obtain ⟨C, xC, gC⟩ := hc
  refine WP.cons (ps_raise hcalm takesW (pmk_own PySem.F.excBase_ValueError (hp C xC.ns) gC xC.kp (raisesX xC) hg hdb)) ?_
  exact ed.ex F H F H σ Γ _ _ _ (Same.refl F) hE L (Ext.refl L.same) ⟨C, rfl, xC.ns, rfl⟩
/-- a class whose __init__ sets one field to its argument: of level k -/
def InitSp (K : PySem.W.Frag) (C : Addr) (fld : Str) : Sp := fun vs H Q E => ∃ (a : Addr) (v : V), vs = [.ref a, v] ∧ H a = some (exo a C none) ∧ ∀ dx, H dx = none → dx ≠ a → Q .non (upd (upd H dx (exd dx [(fld, v)])) a (exo a C (some dx)))
structure XInit (P : Program) (w : World) (K : PySem.W.Frag) (mg : Str → Option Value) (base : Heap) (k : Nat) (n fld : Str) : Prop where
  ex : ∀ C, PySem.W.nsIn K mainGlobals n = some (some (.ref C)) → OexC K C ∧ ∃ (fI : Addr) (fd : FuncData) (ps : List Str), PySem.W.findIn K (.ref C) "__init__" = some (some (.ref fI)) ∧ PySem.W.typeIn K (.ref fI) = some (.type "function") ∧ Binds K fd ps [] ∧ FnOk P w K mg base (L2.CX P w) k fI fd ps (InitSp K C fld)
/-- raise X(e) -/
theorem st_raise1 {n fld : Str} {y : α} {k : Nat} {p1 p3 : Pos} (hc : XC X.K X.mg n) (hi : XInit X.prog X.w X.K X.mg X.base k n fld) (hr : Room (k + 1) X.A) (he : EV X Γ e y) (hE : E.ex Γ ⟨n, fld, .val i y⟩) (hcalm : X.calm = true := by rfl) (hg : Gl X n := by rfl) (hdb : (n == ("__debug__" : Str)) = false := by decide)
    (hs : starEach [e] X.env = (false, eval e X.env) :: starEach [] X.env := by rfl) (hpl : (backTo p1 (starEach [] X.env)).any (·.1) = false := by rfl) :
    ST X (.Raise (some (.Call (.Name n p) [e] [] p1)) none p3 :: rest) Γ E := fun B F H σ D L ed => by
  obtain ⟨C, xC, gC⟩ := hc
  obtain ⟨T, fI, fd, ps, iC, tI, hb, F1⟩ := hi.ex C xC.ns
  refine WP.cons (ps_raise hcalm takesW (pmk_oex T iC tI F1 hr hb .nil passL hg gC paW hdb hs hpl)) ?_
  refine ea_cons he ea_nil hs B F H σ _ L fun vs F1 H1 e1 r1 => ?_
  match vs, r1 with
  | [w], ⟨rw1, _⟩ =>
  refine ⟨by show 1 ≤ 1000; decide, fun a ha => ⟨a, w, rfl, upd_same, fun dx hdx hne => ⟨rfl, dx, [(fld, w)], upd_same, by rw [upd_ne hne, upd_same], ?_, ?_⟩⟩⟩
  · rw [upd_ne hne] at hdx; exact hdx
  · have hd1 : H1 dx = none := by rw [upd_ne hne] at hdx; exact hdx
    have s1 := (L.step e1).same
    have eq : upd (del (upd (upd (upd H1 a (exo a C none)) dx (exd dx [(fld, w)])) a (exo a C (some dx))) a) dx (.xd [(fld, w)]) = upd H1 dx (.xd [(fld, w)]) := by
      funext b
      by_cases hbd : b = dx
      · subst hbd; rw [upd_same, upd_same]
      · rw [upd_ne hbd, upd_ne hbd]
        by_cases hba : b = a
        · subst hba; rw [del_same, ha]
        · rw [del_ne hba, upd_ne hba, upd_ne hbd, upd_ne hba]
    rw [eq]
    have e2 := Ext.apart (o := .xd [(fld, w)]) s1 hd1
    refine ed.ex F H F1 _ σ Γ _ _ _ (Same.refl F) hE L (e1.trans e2) ⟨C, rfl, xC.ns, dx, w, rfl, e1.hs.free hd1, s1.free hd1, upd_same, rw1⟩
end

/-! ### defs that raise -/
section
variable {P : Program} {w : World} {K : PySem.W.Frag} {mg : Str → Option Value} {base : Heap}
theorem Has.ofX {n : Str} {st : Stmt} {N ps : List Str} {k : Nat} {S : Spec} (D : Df K mg n st ps) (sc : FnScope N ps (defScope st)) (len : ∀ A Q R, S A Q R → A.length = ps.length)
    (body : ∀ (f : Addr) (cdv : Value) (A : Around) (outer : List Env) (s : Shared) (H : Hp) (E : XK), Room k (A.deeper (envOfC n (defScope st) s.heap.objs.size f cdv)) → ∀ Γ Q R, S Γ Q R →
      ST (cxOf (L2.CX P w) P w K mg base N n (defScope st) f cdv A outer s H E) (defBody st) (Γ ++ List.replicate (N.length - ps.length) .no) (finX Q R)) :
    Has P w K mg base (k + 1) n ps S := by
  obtain ⟨f, fd, F, hb, hm⟩ := D.ex
  refine ⟨f, fd, hm, F.kp, hb, F.okX sc (fun vs H Q E ⟨F0, A, s, r, ap, h⟩ => ?_) (fun cdv A outer s H vs Q E hr h => ?_)⟩
  · rw [r.len]; exact len _ _ _ h
  · obtain ⟨F0, A0, sm, r, ap, h⟩ := h
    refine ⟨_, psW, ?_⟩
    have hl := len _ _ _ h
    have L0 := lc_start (K := K) sm r ap (N.length - ps.length)
    have L1 : Lc K ⟨F0, H, MA A0⟩ F0 H (L2.start N vs) (A0 ++ List.replicate (N.length - ps.length) .no) := by
      unfold L2.start
      rw [show vs.length = ps.length from r.len.trans hl]
      exact L0
    refine body f cdv A outer s H E hr A0 _ _ h ⟨F0, H, MA A0⟩ F0 H _ _ L1 ⟨fun F' H' σ' Γ' _ hq L => ?_, fun r v F' H' hq ex ok => hq v F' H' ex ok, fun _ _ _ _ _ z => z.elim, fun _ _ _ _ _ z => z.elim, fun F1 H1 F2 H2 σ' Γ' x u d _ hq L e2 ok => ?_⟩
    · exact hq .non F' H' L.ext rfl
    · refine XW.of (L2.takes_of rfl rfl rfl rfl) (hq u d F2 H2 (L.ext.trans e2 L.there) (ok.old fun a h => ?_))
      cases z : H a with
      | none => rfl
      | some o =>
        by_cases hm : MA A0 a
        · exact absurd h (L.there a hm (show H a ≠ none by rw [z]; exact fun y => nomatch y))
        · rw [L.ext.hh a o hm z] at h; cases h
end
end Tw

namespace Tw
open PySem PySem.Spec PyProof.Rows L2 TL

section
variable {X : Cx} {pins : List (Addr × Obj)} {σ : L2.St} {H : Hp} {s : Shared}
theorem inv_suite (I : Inv X pins σ H s) (a : Addr) : Inv (X.suite a (X.pn ++ pins)) [] σ H s :=
  ⟨I.ok.suite _ _, I.os, I.bare, I.base, I.loc, I.cell, I.free, I.freeC, fun p hp => I.pin p (by rw [List.append_nil] at hp; exact hp), I.hok, I.len⟩
theorem inv_unsuite {a : Addr} {pn' : List (Addr × Obj)} (I : Inv (X.suite a (X.pn ++ pins)) pn' σ H s) (ok : X.Ok) : Inv X pins σ H s :=
  ⟨ok, I.os, I.bare, I.base, I.loc, I.cell, I.free, I.freeC, fun p hp => I.pin p (List.mem_append_left _ hp), I.hok, I.len⟩
/-- what is caught is tracked -/
theorem inv_caught {a : Addr} {cls : Value} {d : Option Addr} {oe : Obj} {vs : Array Value} {s0 : Shared} (I : Inv X pins σ H s) (J : Inv X pins σ H s0) (h0 : s0.heap.get? a = none) (na : H a = none) (nL : a ≠ X.env.locals) (e : s.heap.get? a = some oe) (z : Zc cls d oe) (hd : oe.data = .fields vs) : Inv X pins σ (upd H a (ErrO cls d a)) s := by
  have n0 : ∀ b o, X.s_0.heap.get? b = some o → b ∉ X.ex → b ≠ a := fun b o q hx z => by
    subst z
    obtain ⟨o', q'⟩ := J.base.there b o q hx
    rw [h0] at q'; cases q'
  have nH : ∀ b o, H b = some o → b ≠ a := fun b o q z => by rw [z, na] at q; cases q
  refine ⟨I.ok, I.os, I.bare, ⟨I.base.keep, I.base.slot, fun b o q n hx => ?_, I.base.there, fun b xs q => ?_, fun b o v q => ?_, fun b ps q => ?_⟩, I.loc, I.cell, ?_, fun x c q => ?_, fun p hp => ?_, ?_, I.len⟩
  · rw [upd_ne (n0 b o q hx)]; exact I.base.free b o q n hx
  · have := I.base.tups b xs q
    rw [upd_ne (nH _ _ this)]; exact this
  · have := I.base.frzs b o v q
    rw [upd_ne (nH _ _ this)]; exact this
  · obtain ⟨m, this⟩ := I.base.tbls b ps q
    exact ⟨m, by rw [upd_ne (nH _ _ this)]; exact this⟩
  · rw [upd_ne (Ne.symm nL)]; exact I.free
  · have nc : c ≠ a := fun y => by
      obtain ⟨v, o', q1, q2⟩ := I.cell x c q
      rw [y, e] at q1
      cases q1
      rw [hd] at q2; cases q2
    rw [upd_ne nc]; exact I.freeC x c q
  · obtain ⟨p1, p2, p3, p4, p5⟩ := I.pin p hp
    obtain ⟨q1, _⟩ := J.pin p hp
    have np : p.1 ≠ a := fun y => by rw [y, h0] at q1; cases q1
    exact ⟨p1, by rw [upd_ne np]; exact p2, p3, p4, p5⟩
  · intro b o q
    by_cases hb : b = a
    · subst hb
      rw [upd_same] at q
      cases q
      exact errO_ok e z hd
    · rw [upd_ne hb] at q
      exact (I.hok b o q).stay (fun _ _ _ r => r) (fun c r => by rw [upd_ne (nH _ _ r)]; exact r) fun c xs r => by rw [upd_ne (nH _ _ r)]; exact r
end

/-- what the clause 'except x as n' wishes, the exception tracked -/
def wKept (K : PySem.W.Frag) (c : Value) (i : Nat) (ts : Addr → TS) (Wout : WX) (D : Ends) : WX := fun cls d σ H =>
  ∃ b, PySem.W.exmOne K cls c = some b ∧ (b = true → ∀ a, H a = none → ts a { nx := fun σ' H' => D.nx (σ'.set i none) H', rt := D.rt, bk := fun σ' H' => D.bk (σ'.set i none) H', ct := fun σ' H' => D.ct (σ'.set i none) H' } (σ.set i (some (.ref a))) (upd H a (ErrO cls d a))) ∧
    (b = false → Wout cls d σ H)
section
variable {X : Cx} {x n : Str} {c : Value} {i : Nat} {body suite : List Stmt} {b₀ : Stmt} {np pos pos' : Pos} {tb : WX → TS} {ts : Addr → TS} {Wout : WX}
theorem ps_try_kept (hs : X.stack = X.env :: X.outer) (hf : X.env.frame = some X.env.locals) (hN : X.N.Nodup) (hi : X.N[i]? = some n) (hln : X.env.kindOf n = some .local) (hc : Names X x c) (tk : Takes X Wout)
    (hb : ∀ (W : WX) (pn : List (Addr × Obj)) (xe : Value → Shared → Prop), Takes (X.tr pn xe) W → PassesOwn (model X.prog X.w) X.A X.env xe → PSs (X.tr pn xe) body (tb W))
    (hsu : ∀ (a : Addr) (pn : List (Addr × Obj)), PSs (X.suite a pn) (b₀ :: suite) (ts a)) :
    PS X (.Try body [.ExceptHandler (some (.Name x np)) (some n) (b₀ :: suite) pos'] [] [] pos) (fun D σ H => tb (wKept X.K c i ts Wout D) D σ H) := by
  refine ⟨fun pins s σ H D I h => ?_⟩
  have ok := I.ok
  have hfr : X.A.frames = some (X.env :: X.outer) := by rw [ok.frames, hs]
  have hloc : L2.Loc X.env.scope n := .inl hln
  refine wpAny_Try_except ?_
  refine wpAny_mono ((hb (wKept X.K c i ts Wout D) (X.pn ++ pins) (fun e s₁ => wpAny (model X.prog X.w) X.A (noteFrame e X.env) (fun _ s₂ => wpAny (model X.prog X.w) X.A (setFlight e none) (fun _ s₃ =>
    wpAny (model X.prog X.w) X.A (handleBy e X.env [.ExceptHandler (some (.Name x np)) (some n) (b₀ :: suite) pos']) (SP X pins D) X.xe s₃) X.xe s₂) X.xe s₁) (fun u s' xx => ?_) PassesOwn.looking).run [] s σ H D (I.toTry _) h) (fun f s1 hsp => ?_) (fun e s1 he => he)
  · obtain ⟨a, B, sI, pins', σ', H', cls, d, rfl, J', nb, up, sky, na, os, ag, b, hb1, hyes, hno⟩ := xx
    have J : Inv X pins σ' H' sI := J'.ofTry ok
    have sky' : Sky B (X.env :: X.outer) a (Zc cls d) X.env.locals s'.heap := by rw [← hs]; exact sky
    show wpAny (model X.prog X.w) X.A (noteFrame (.ref a) X.env) _ _ _
    refine Sky.land Zc.steady hfr hf sky' fun h3 fl3 up3 => ?_
    have J3 : Inv X pins σ' H' { s' with heap := h3 } := J.landed nb fl3.1 (up.trans up3) os ag
    obtain ⟨oe3, vs3, he3, hz3, hd3⟩ := fl3.there
    have notFr : ∀ {h : Heap} {o : Obj} {vs : Array Value}, h.FunFrames B (X.env :: X.outer) → h.get? a = some o → o.data = .fields vs → a ∉ frs (X.env :: X.outer) := fun {h o vs} ff e dd hm => by
      obtain ⟨_, o', e', hnf⟩ := ff.mem hm
      rw [e] at e'; cases e'
      exact hnf _ dd
    have nfr := notFr fl3.2.2.1 he3 hd3
    have nL : a ≠ X.env.locals := fun z => nfr (List.mem_filterMap.mpr ⟨X.env, List.mem_cons_self, by rw [hf, z]⟩)
    have nF : a ∉ X.fs := fun hm => by
      obtain ⟨e, he, q⟩ := List.mem_filterMap.mp hm
      exact nfr (List.mem_filterMap.mpr ⟨e, List.mem_cons_of_mem _ he, q⟩)
    have nI : sI.heap.get? a = none := by
      cases q : sI.heap.get? a with
      | none => rfl
      | some o =>
        have z := nb a o q (by rw [hs]; exact nfr)
        rw [fl3.2.1] at z; cases z
    have S3 := J3.suite he3 hd3 na nL nF
    refine wpAny_handleBy_cons (codeAny_handlers_test ?_) (by intro q; cases q)
    have LT : PySem.W.Looks (model X.prog X.w) h3 (typeOf (.ref a)) cls := fun A Q E s k q => wpAny_typeOf_ref (k _ _ he3) (by rw [hz3.1]; exact q)
    have LM := PySem.W.exm_one (M := model X.prog X.w) (J3.kIn) LT hb1
    have test : ∀ {Q : Value → Shared → Prop} {E : Value → Shared → Prop}, Q c { s' with heap := h3 } → wpAny (model X.prog X.w) (X.A.mark (some (.ref a))) (eval (.Name x np) X.env) Q E { s' with heap := h3 } := fun {Q E} q => by
      obtain ⟨hg, hdbg, hm | ⟨hm, hv, hnn⟩⟩ := hc
      · exact ld_glob (X := X.suite a ((a, oe3) :: (X.pn ++ pins))) S3 hg hm q hdbg
      · exact ld_blt (X := X.suite a ((a, oe3) :: (X.pn ++ pins))) S3 hg hm hv q hnn hdbg
    refine test (LM.here ?_)
    cases b with
    | true =>
      refine codeAny_handlers_suite_as ?_
      refine HandSPX.lands_againZ fl3 fun h4 fl4 up4 => ?_
      have J4 : Inv X pins σ' H' { s' with heap := h4 } := J.landed nb fl4.1 ((up.trans up3).trans up4) os ag
      obtain ⟨oe4, vs4, he4, hz4, hd4⟩ := fl4.there
      have JT : Inv X pins σ' (upd H' a (ErrO cls d a)) { s' with heap := h4 } := inv_caught J4 J nI na nL he4 hz4 hd4
      have S4 := inv_suite JT a
      refine store_ok (X := X.suite a (X.pn ++ pins)) (v := .ref a) S4 hN hi hloc rfl (fun s5 S5 => ?_) (.inr hln)
      refine wpAny_mono ((hsu a (X.pn ++ pins)).run [] s5 _ _ _ S5 (hyes rfl a na)) (fun f s6 hsp => ?_) (fun _ _ z => False.elim z)
      have end_ : ∀ {σ6 : L2.St} {H6 : Hp} {Q : Shared → Prop}, Inv (X.suite a (X.pn ++ pins)) [] σ6 H6 s6 → (∀ s7, Inv X pins (σ6.set i none) H6 s7 → Q s7) →
          wpAny (model X.prog X.w) X.A (do bindName X.env n .none; unbindBehindTheSuite X.env n pos') (fun _ s7 => Q s7) X.xe s6 := fun {σ6 H6 Q} S6 hq => gone_ok (inv_unsuite S6 ok) hN hi hln hq
      cases f with
      | next =>
        obtain ⟨σ6, H6, S6, q6⟩ := hsp
        exact end_ S6 fun s7 J7 => ⟨_, _, J7, q6⟩
      | brk =>
        obtain ⟨σ6, H6, S6, q6⟩ := hsp
        exact end_ S6 fun s7 J7 => ⟨_, _, J7, q6⟩
      | cont =>
        obtain ⟨σ6, H6, S6, q6⟩ := hsp
        exact end_ S6 fun s7 J7 => ⟨_, _, J7, q6⟩
      | ret u =>
        obtain ⟨v6, σ6, H6, S6, r6, q6⟩ := hsp
        exact end_ S6 fun s7 J7 => ⟨_, _, _, J7, r6, q6⟩
    | false =>
      show wpAny _ X.A (handleBy (.ref a) X.env []) _ _ _
      refine wpAny_handleBy_nil ?_
      obtain ⟨k1, k2, k3, oe, vs, T, oT, ts', he, hz, hd, h1, hr⟩ := id fl3
      unfold PySem.passOn
      refine wpAny_bind (wpAny_field he hd h1 ?_)
      rw [if_neg (show ¬ ((Value.ref T == Value.none) = true) from by simp)]
      have fin : wpAny (model X.prog X.w) X.A (setFlight (.ref a) X.env.frame) (fun _ s4 => wpAny (model X.prog X.w) X.A (throw (.ref a) : Sem Flow) (SP X pins D) X.xe s4) X.xe { s' with heap := h3 } := by
        rw [hf]
        refine HandSPX.setFlight_upZ fl3 fun h4 hh4 up4 => wpAny_throw (tk _ _ ?_)
        exact ⟨a, B, sI, pins, σ', H', cls, d, rfl, J, nb, (up.trans up3).trans up4, .inr (.inr (by rw [hs]; exact hh4)), na, os, ag, hno rfl⟩
      first
        | exact wpAny_bind (wpAny_pure (wpAny_bind fin))
        | exact wpAny_bind fin
  · cases f with
    | next =>
      obtain ⟨σ', H', J', q⟩ := hsp
      exact wpAny_execs_nil ⟨σ', H', J'.ofTry ok, q⟩
    | brk =>
      obtain ⟨σ', H', J', q⟩ := hsp
      exact ⟨σ', H', J'.ofTry ok, q⟩
    | cont =>
      obtain ⟨σ', H', J', q⟩ := hsp
      exact ⟨σ', H', J'.ofTry ok, q⟩
    | ret u =>
      obtain ⟨v, σ', H', J', r, q⟩ := hsp
      exact ⟨v, σ', H', J'.ofTry ok, r, q⟩
end
section
variable {X : Cx} {Γ : List Slot} {α β γ : Type} {pos pos' np p p2 : Pos} {E : SE} {rest body suite : List Stmt} {b₀ : Stmt}
theorem exn_slot {K : PySem.W.Frag} {H F2 H2 : Hp} {C : Value} {d : Option Addr} {x : Exn} {F : Hp} {a : Addr} (s : Same F H) (e : Ext F H F2 H2) (s2 : Same F2 H2) (ok : XOk K H F2 H2 C d x) (ha : H2 a = none) :
    ∃ F3, Ext F H F3 (upd H2 a (ErrO C d a)) ∧ SlotOk K ⟨F, H, fun _ => False⟩ F3 (upd H2 a (ErrO C d a)) (some (.ref a)) x.slot := by
  obtain ⟨C, rfl, hC, h⟩ := ok
  obtain ⟨cls, fld, why⟩ := x
  cases why with
  | no =>
    have hd : d = none := h
    subst hd
    have e2 := Ext.new (o := ErrO (.ref C) none a) s2 ha
    exact ⟨_, e.trans e2, .ref a, rfl, a, C, rfl, upd_same, hC⟩
  | own o => exact h.elim
  | val i y =>
    obtain ⟨dx, w, rfl, hd0, fd, hd2, r⟩ := h
    have sm : Same F2 (upd F2 dx (.xd [(fld, w)])) := fun b u q => by rw [upd_ne (ne_of_none q fd)]; exact q
    have e1 : Ext F H (upd F2 dx (.xd [(fld, w)])) H2 := ⟨e.ff.trans sm, fun b u q => (by
      by_cases hb : b = dx
      · subst hb; rw [upd_same] at q; rw [← q]; exact hd2
      · rw [upd_ne hb] at q; exact s2 _ _ q), e.hh, fun b _ h1 h2 => (by rw [upd_ne (fun z => by subst z; exact h2 hd0)]; exact e.nw b h1 h2)⟩
    have e2 := Ext.new (o := ErrO (.ref C) (some dx) a) e1.fh ha
    refine ⟨_, e1.trans e2, .ref a, rfl, dx, w, ⟨a, C, rfl, upd_same, hC⟩, ?_, ?_⟩
    · rw [upd_ne (fun z => by subst z; rw [ha] at hd2; cases hd2), upd_same]
    · exact i.mono (sm.trans e2.ff) r
theorem exn_own (x : Exn) : x.slot.isOwn = false := by
  obtain ⟨cls, fld, why⟩ := x
  cases why <;> rfl
/-- try: body except x as n: suite; m the place of n -/
theorem st_try (m : Nat) {x n : Str} (hN : X.N.Nodup) (hc : XC X.K X.mg x)
    (hb : ∀ pn xe, PassesOwn (model X.prog X.w) X.A X.env xe → ST (X.tr pn xe) body Γ { E with nx := fun Γ' => ST X rest Γ' E, ex := fun Γ' y => (XSub X.K y.cls x true ∧ ∀ a pn, ST (X.suite a pn) (b₀ :: suite) (Γ'.set m y.slot)
        { nx := fun Γ2 => ST X rest (Γ2.set m .no) E, rt := E.rt, bk := fun Γ2 => E.bk (Γ2.set m .no), ct := fun Γ2 => E.ct (Γ2.set m .no), ex := fun _ _ => False }) ∨ (XSub X.K y.cls x false ∧ E.ex Γ' y) })
    (hi : X.N[m]? = some n := by rfl) (hln : X.env.kindOf n = some .local := by rfl) (hg : Gl X x := by rfl) (hdb : (x == ("__debug__" : Str)) = false := by decide) (hs : X.stack = X.env :: X.outer := by rfl) (hf : X.env.frame = some X.env.locals := by rfl) :
    ST X (.Try body [.ExceptHandler (some (.Name x np)) (some n) (b₀ :: suite) pos'] [] [] pos :: rest) Γ E := fun B F H σ D L ed => by
  obtain ⟨C, xC, gC⟩ := hc
  refine WP.cons (ps_try_kept (tb := fun W D σ H => ∀ pn xe, Takes (X.tr pn xe) W → PassesOwn (model X.prog X.w) X.A X.env xe → WP (X.tr pn xe) body D σ H) (ts := fun a D σ H => ∀ pn, WP (X.suite a pn) (b₀ :: suite) D σ H) hs hf hN hi hln ⟨hg, hdb, .inl gC⟩ takesW
    (fun W pn xe tk hp => ⟨fun pins s σ H D I h => h pn xe tk hp pins s I⟩) (fun a pn => ⟨fun pins s σ H D I h => h pn pins s I⟩)) ?_
  intro pn xe tk hp
  refine hb pn xe hp B F H σ _ L ⟨fun F1 H1 σ1 Γ1 s1 h1 L1 => h1 B F1 H1 σ1 D L1 (ed.weak s1), ed.rt, ed.bk, ed.ct, fun F1 H1 F2 H2 σ1 Γ1 y u d s1 h1 L1 e2 ok => XW.of tk ?_⟩
  obtain ⟨Cy, eu, nCy, _⟩ := id ok
  rcases h1 with ⟨hsub, hsu⟩ | ⟨hsub, hE⟩
  · subst eu
    refine ⟨true, (hsub Cy C nCy xC.ns).1, fun _ a ha pn => ?_, fun z => nomatch z⟩
    have L2 := L1.step e2
    obtain ⟨F3, e3, so⟩ := exn_slot L1.same e2 L2.same ok ha
    have L3 := L1.step e3
    have L4 : Lc X.K B F3 _ (σ1.set m (some (.ref a))) (Γ1.set m y.slot) := L3.put m (exn_own y) (by
      revert so
      have ho := exn_own y
      cases hy : y.slot with
      | no => exact fun _ => trivial
      | val i z => exact fun h => h
      | own o => rw [hy] at ho; cases ho)
    refine hsu a pn B F3 _ _ _ L4 ⟨fun F5 H5 σ5 Γ5 s5 h5 L5 => ?_, ed.rt, fun F5 H5 σ5 Γ5 s5 h5 L5 => ?_, fun F5 H5 σ5 Γ5 s5 h5 L5 => ?_, fun _ _ _ _ _ _ _ _ _ _ z => z.elim⟩
    · exact h5 B F5 H5 _ D (L5.putN m none) (ed.weak ((s1.trans e3.ff).trans s5))
    · exact ed.bk F5 H5 _ _ ((s1.trans e3.ff).trans s5) h5 (L5.putN m none)
    · exact ed.ct F5 H5 _ _ ((s1.trans e3.ff).trans s5) h5 (L5.putN m none)
  · subst eu
    exact ⟨false, (hsub Cy C nCy xC.ns).1, (fun z => nomatch z), fun _ => ed.ex F1 H1 F2 H2 σ1 Γ1 y _ d s1 hE L1 e2 ok⟩
end
end Tw

namespace Tw
open PySem PySem.Spec PyProof.Rows L2 TL

section
variable {X : Cx} {Γ : List Slot} {α β γ : Type} {i : Rep α} {j : Rep β} {l : Rep γ} {pos p p2 : Pos} {e a b c elt tg it : Expr} {es : List Expr} {E : SE} {rest body : List Stmt}

/-! ### zip, enumerate -/
theorem src_zip {xs : List α} {ys : List β} {elts : List Expr} {kk : Nat} {tpos p2 : Pos} (hm : X.mg "zip" = none) (ha : EV X Γ a xs) (hb : EV X Γ b ys) (hg : Gl X "zip" := by rfl)
    (hs : starEach [a, b] X.env = (false, eval a X.env) :: starEach [b] X.env := by rfl) (hs2 : starEach [b] X.env = (false, eval b X.env) :: starEach [] X.env := by rfl) (hpl : (backTo p2 (starEach [b] X.env)).any (·.1) = false := by rfl) : Src X Γ (.Tuple elts kk tpos) (.Call (.Name "zip" p) [a, b] [] p2) (xs.zip ys) :=
  ⟨_, pi_zip hg hm (pa_cons peW (pa_cons peW pa_nil hs2) hs) hs hpl, fun B F H σ R L q => ha B F H σ _ L fun v F1 H1 e1 r1 => hb B F1 H1 σ _ (L.step e1) fun u F2 H2 e2 r2 => by
    obtain ⟨a1, vs, rfl, h1, p1⟩ := r1
    obtain ⟨a2, ws, rfl, h2, p2⟩ := r2
    have s2 := (L.step (e1.trans e2)).same
    have h1' := e2.ff _ _ h1
    refine ⟨a1, a2, vs, ws, rfl, sq_of s2 h1', sq_of s2 h2, q _ F2 H2 (e1.trans e2) fun F3 H3 s3 s4 => ⟨fun k x hx => ?_, vs, ws, sq_of s4 (s3 _ _ h1'), sq_of s4 (s3 _ _ h2), ?_⟩⟩
    · obtain ⟨hx1, hx2⟩ := List.getElem?_zip_eq_some.mp hx
      obtain ⟨w1, hw1, r1'⟩ := pgetL p1 hx1
      obtain ⟨w2, hw2, r2'⟩ := pgetL p2 hx2
      refine ⟨⟨vs, ws, w1, w2, sq_of s4 (s3 _ _ h1'), sq_of s4 (s3 _ _ h2), hw1, hw2⟩, fun v H4 hy => ?_⟩
      obtain ⟨T, y1, y2, rfl, hT, rfl, g1, g2⟩ := hy
      have z1 : w1 = y1 := Option.some.inj (hw1.symm.trans (g1 vs (sq_of s4 (s3 _ _ h1'))))
      have z2 : w2 = y2 := Option.some.inj (hw2.symm.trans (g2 ws (sq_of s4 (s3 _ _ h2))))
      subst z1 z2
      have ea := Ext.new (o := .tup [w1, w2]) s4 hT
      exact ⟨_, ea, T, w1, w2, rfl, upd_same, i.mono (e2.ff.trans (s3.trans ea.ff)) r1', j.mono (s3.trans ea.ff) r2'⟩
    · rw [List.length_zip, Paired.length p1, Paired.length p2]; omega⟩
/-- a list's items with their numbers -/
def enumL {A : Type} (xs : List A) : List (Int × A) := (xs.zipIdx).map fun p => ((p.2 : Int), p.1)
theorem enumL_get {A : Type} {xs : List A} {k : Nat} {x : Int × A} (h : (enumL xs)[k]? = some x) : x.1 = (k : Int) ∧ xs[k]? = some x.2 := by
  unfold enumL at h
  rw [List.getElem?_map, List.getElem?_zipIdx] at h
  cases q : xs[k]? with
  | none => rw [q] at h; cases h
  | some y =>
    rw [q] at h
    have : x = ((k : Int), y) := by simpa using h.symm
    rw [this]
    exact ⟨rfl, rfl⟩
theorem enumL_len {A : Type} {xs : List A} : (enumL xs).length = xs.length := by unfold enumL; simp
theorem src_enum {xs : List α} {elts : List Expr} {kk : Nat} {tpos p2 : Pos} (hm : X.mg "enumerate" = none) (ha : EV X Γ a xs) (hg : Gl X "enumerate" := by rfl) (hs : starEach [a] X.env = [(false, eval a X.env)] := by rfl) : Src X Γ (.Tuple elts kk tpos) (.Call (.Name "enumerate" p) [a] [] p2) (enumL xs) :=
  ⟨_, pi_enum hg hm (pa_cons peW pa_nil hs) hs, fun B F H σ R L q => ha B F H σ _ L fun v F1 H1 e1 r1 => by
    obtain ⟨a1, vs, rfl, h1, p1⟩ := r1
    have s2 := (L.step e1).same
    refine ⟨a1, vs, rfl, sq_of s2 h1, q _ F1 H1 e1 fun F3 H3 s3 s4 => ⟨fun k x hx => ?_, vs, sq_of s4 (s3 _ _ h1), ?_⟩⟩
    · obtain ⟨n, y⟩ := x
      obtain ⟨hx1, hx2⟩ := enumL_get hx
      obtain ⟨w1, hw1, r1'⟩ := pgetL p1 hx2
      refine ⟨⟨vs, w1, sq_of s4 (s3 _ _ h1), hw1⟩, fun v H4 hy => ?_⟩
      obtain ⟨T, y1, rfl, hT, rfl, g1⟩ := hy
      have z1 : w1 = y1 := Option.some.inj (hw1.symm.trans (g1 vs (sq_of s4 (s3 _ _ h1))))
      subst z1
      have ea := Ext.new (o := .tup [.int (k : Nat), w1]) s4 hT
      exact ⟨_, ea, T, .int (k : Nat), w1, rfl, upd_same, (show V.int (k : Nat) = V.int n by rw [show n = (k : Int) from hx1]), i.mono (s3.trans ea.ff) r1'⟩
    · rw [enumL_len, Paired.length p1]; exact Nat.le_refl _⟩

/-! ### lists put together, pairs -/
theorem en_addL {xs ys : List α} (ha : EV X Γ a xs) (hb : EV X Γ b ys) (hz : xs.length + ys.length ≤ sizeLine) : EN X Γ (.BinOp a .Add b pos) (xs ++ ys) := fun B F H σ Q L q =>
  WE.of (pe_op op_cat peW peW) (ha B F H σ _ L fun v F1 H1 e1 r1 => hb B F1 H1 σ _ (L.step e1) fun u F2 H2 e2 r2 => by
    obtain ⟨a1, vs, rfl, h1, p1⟩ := r1
    obtain ⟨a2, ws, rfl, h2, p2⟩ := r2
    have e12 := e1.trans e2
    have s2 := (L.step e12).same
    refine ⟨a1, a2, vs, ws, rfl, rfl, s2 _ _ (e2.ff _ _ h1), s2 _ _ h2, by rw [Paired.length p1, Paired.length p2]; exact hz, fun p hp => ?_⟩
    exact q p (vs ++ ws) F2 _ (e12.trans (Ext.apart s2 hp)) (e12.hs.free hp) (s2.free hp) upd_same (papp (Paired.mapP p1 fun _ _ z => i.mono e2.ff z) p2))
theorem ev_lenP {x : α × β} (hm : X.mg "len" = none) (h : EV X Γ e x) (hg : Gl X "len" := by rfl) (hs : starEach [e] X.env = (false, eval e X.env) :: starEach [] X.env := by rfl) (hpl : (backTo pos (starEach [] X.env)).any (·.1) = false := by rfl) :
    EV X Γ (.Call (.Name "len" p) [e] [] pos) (2 : Int) :=
  ev_callB1 call_len_seq hm PySem.boot_len h (fun F H v Q s r q => by
    obtain ⟨a, u, w, rfl, ha, _⟩ := r
    exact ⟨a, [u, w], rfl, .inr (st_of s ha), q _ F H (Ext.refl s) rfl⟩) hg (by decide) (by decide) hs hpl
theorem ev_fst {x : α × β} {k} (ha : EV X Γ a x) (hp : PlainIx (.Constant (.int 0) k p) := by intro _ _; rfl) : EV X Γ (.Subscript a (.Constant (.int 0) k p) pos) x.1 := fun B F H σ Q L q =>
  WE.of (pe_ix ix_tup peW pe_int hp) (ha B F H σ _ L fun v F1 H1 e1 r1 => by
    obtain ⟨ad, u, w, rfl, h1, r1, r2⟩ := r1
    exact ⟨ad, [u, w], 0, u, rfl, rfl, st_of (L.step e1).same h1, rfl, q u F1 H1 e1 r1⟩)
theorem ev_snd {x : α × β} {k} (ha : EV X Γ a x) (hp : PlainIx (.Constant (.int 1) k p) := by intro _ _; rfl) : EV X Γ (.Subscript a (.Constant (.int 1) k p) pos) x.2 := fun B F H σ Q L q =>
  WE.of (pe_ix ix_tup peW pe_int hp) (ha B F H σ _ L fun v F1 H1 e1 r1 => by
    obtain ⟨ad, u, w, rfl, h1, r1, r2⟩ := r1
    exact ⟨ad, [u, w], 1, w, rfl, rfl, st_of (L.step e1).same h1, rfl, q w F1 H1 e1 r2⟩)

/-! ### a pair of own lists -/
def ownP {α β : Type} (i : Rep α) (j : Rep β) (a l m : Addr) (xs : List α) (ys : List β) : Own where
  fp := [a, l, m]
  ok := fun K F H v => v = .ref a ∧ (a ≠ l ∧ a ≠ m ∧ l ≠ m) ∧ H a = some (.tup [.ref l, .ref m]) ∧ (∃ vs, H l = some (.lst vs) ∧ Paired (fun u x => i.rp K F u x) vs xs) ∧ ∃ ws, H m = some (.lst ws) ∧ Paired (fun u x => j.rp K F u x) ws ys
  stay := fun s k ⟨e, n, h, ⟨vs, h1, p1⟩, ws, h2, p2⟩ => ⟨e, n, k a (by simp) _ h, ⟨vs, k l (by simp) _ h1, Paired.mapP p1 fun _ _ q => i.mono s q⟩, ws, k m (by simp) _ h2, Paired.mapP p2 fun _ _ q => j.mono s q⟩
  there := fun ⟨_, _, h, ⟨vs, h1, _⟩, ws, h2, _⟩ b hb z => by
    have hb' : b = a ∨ b = l ∨ b = m := by simpa using hb
    rcases hb' with rfl | rfl | rfl
    · rw [h] at z; cases z
    · rw [h1] at z; cases z
    · rw [h2] at z; cases z
def OwnP {α β : Type} (i : Rep α) (j : Rep β) (xs : List α) (ys : List β) : Own → Prop := fun o => ∃ a l m, o = ownP i j a l m xs ys
theorem frozP {ad l m : Addr} {xs : List α} {ys : List β} : Froz (ownP i j ad l m xs ys) (xs, ys) := fun {K F H v} s ⟨e, n, h, ⟨vs, h1, p1⟩, ws, h2, p2⟩ f =>
  ⟨ad, .ref l, .ref m, e, (frz_in (ps := [ad, l, m]) (by simp)).trans h, ⟨l, vs, rfl, (frz_in (ps := [ad, l, m]) (by simp)).trans h1, Paired.mapP p1 fun _ _ q => i.mono (frz_le f) q⟩, m, ws, rfl, (frz_in (ps := [ad, l, m]) (by simp)).trans h2, Paired.mapP p2 fun _ _ q => j.mono (frz_le f) q⟩
/-- (e1, e2), two new lists -/
theorem ex_pairN {x1} {xs : List α} {ys : List β} (ha : EN X Γ a xs) (hb : EN X Γ b ys) (hs : starEach [a, b] X.env = (false, eval a X.env) :: starEach [b] X.env := by rfl) (hs2 : starEach [b] X.env = (false, eval b X.env) :: starEach [] X.env := by rfl) : EX X Γ (.Tuple [a, b] x1 pos) (fun r => r = .own (OwnP i j xs ys)) := fun B F H σ Q L q =>
  WE.of (pe_tup (pa_cons peW (pa_cons peW pa_nil hs2) hs)) (ha B F H σ _ L fun a1 vs F1 H1 e1 n1 f1 h1 p1 => hb B F1 H1 σ _ (L.step e1) fun a2 ws F2 H2 e2 n2 f2 h2 p2 => ⟨by show 2 ≤ sizeLine; decide, fun p hp => by
    have e12 := e1.trans e2
    have s2 := (L.step e12).same
    have h1' := e2.hs _ _ h1
    have g1 : F2 a1 = none := e2.nw a1 f1 (by rw [h1]; exact fun z => nomatch z)
    have ne1 : p ≠ a1 := fun z => by rw [z, h1'] at hp; cases hp
    have ne2 : p ≠ a2 := fun z => by rw [z, h2] at hp; cases hp
    have ne3 : a1 ≠ a2 := fun z => by rw [z] at h1; rw [n2] at h1; cases h1
    have e3 := e12.trans (Ext.apart (o := .tup [.ref a1, .ref a2]) s2 hp)
    refine q _ (.ref p) F2 _ rfl e3 ⟨ownP i j p a1 a2 xs ys, ⟨p, a1, a2, rfl⟩, fun b hb => ?_, rfl, ⟨ne1, ne2, ne3⟩, upd_same, ⟨vs, by rw [upd_ne (Ne.symm ne1)]; exact h1', Paired.mapP p1 fun _ _ z => i.mono e2.ff z⟩, ws, by rw [upd_ne (Ne.symm ne2)]; exact h2, p2⟩
    have hb' : b = p ∨ b = a1 ∨ b = a2 := by
      have : b ∈ [p, a1, a2] := hb
      simpa using this
    rcases hb' with rfl | rfl | rfl
    · exact ⟨e12.hs.free hp, s2.free hp⟩
    · exact ⟨n1, g1⟩
    · exact ⟨e1.hs.free n2, f2⟩⟩)
/-- found[0].append(e) -/
theorem st_appendP0 (k : Nat) {n : Str} {ad l m : Addr} {xs : List α} {ys : List β} {x : α} {kk} {q1 q2 q3 : Pos} {apos cpos : Pos} (he : EV X Γ e x) (hr : ST X rest (Γ.set k (.own (ownP i j ad l m (xs ++ [x]) ys))) E) (hz : xs.length < sizeLine) (hg : Γ[k]? = some (.own (ownP i j ad l m xs ys)) := by rfl) (hN : X.N[k]? = some n := by rfl)
    (hv : Vis X.env.scope n := by first | exact Or.inl rfl | exact Or.inr (Or.inl rfl) | exact Or.inr (Or.inr rfl)) (hd : (n == ("__debug__" : Str)) = false := by decide) (hcd : (n == ("__classdict__" : Str)) = false := by decide) (hp : PlainIx (.Constant (.int 0) kk q2) := by intro _ _; rfl)
    (hbase : attributeBase (.Subscript (.Name n q1) (.Constant (.int 0) kk q2) q3) "append" X.env (eval (.Subscript (.Name n q1) (.Constant (.int 0) kk q2) q3) X.env) = eval (.Subscript (.Name n q1) (.Constant (.int 0) kk q2) q3) X.env := by rfl)
    (hfew : ((backTo cpos (starEach [e] X.env)).all (fun x => !x.1) && (backToKw cpos (keywordEach [] X.env)).all (fun x => x.1.isSome) && decide ([e].length + ([] : List Keyword).length + (if ([] : List Keyword).isEmpty then 0 else 1) < 30)) = true := by rfl)
    (hline : (apos.endLine == cpos.line) = true := by rfl) (hs : starEach [e] X.env = (false, eval e X.env) :: starEach [] X.env := by rfl) (hplain : (backTo cpos (starEach [] X.env)).any (·.1) = false := by rfl)
    (hsw : swapsWith (.Call (.Attribute (.Subscript (.Name n q1) (.Constant (.int 0) kk q2) q3) "append" apos) [e] [] cpos) none pos.line X.env = pure false := by rfl) :
    ST X (.Expr (.Call (.Attribute (.Subscript (.Name n q1) (.Constant (.int 0) kk q2) q3) "append" apos) [e] [] cpos) pos :: rest) Γ E := fun B F H σ D L ed => by
  obtain ⟨v, ev, ⟨rfl, nn, h, ⟨vs, h1, p1⟩, ws, h2, p2⟩, f⟩ := slot_own L hg
  refine WP.cons (ps_expr (pe_bm PySem.F.plainAttrs_list PySem.F.slot_list_append PySem.F.type_list_append mt_append (pe_ix ix_tup (pe_var hN hv hd hcd) pe_int hp) (pa_cons peW pa_nil hs) hbase hfew hline hs hplain) hsw) ?_
  refine ⟨.ref ad, ev, ad, [.ref l, .ref m], 0, .ref l, rfl, rfl, .inl (.inl h), rfl, .inl ⟨rfl, _, .inl (.inl h1)⟩, he B F H σ _ L fun v F1 H1 e1 r1 => ?_⟩
  have L1 := L.step e1
  obtain ⟨v', ev', ⟨rfl, _, h', ⟨vs', h1', p1'⟩, ws', h2', p2'⟩, f'⟩ := slot_own L1 hg
  refine ⟨l, vs', v, rfl, rfl, h1', by rw [Paired.length p1']; exact hz, ?_⟩
  refine hr B F1 _ σ D (L1.updO hg ev (fun b u hb q => ?_) (fun b hb => ?_) (fun b hb => .inl hb) ⟨rfl, nn, ?_, ⟨vs' ++ [v], upd_same, papp p1' (.cons r1 .nil)⟩, ws', ?_, p2'⟩) (ed.weak e1.ff)
  · rw [upd_ne (fun z => hb (by rw [z]; show l ∈ [ad, l, m]; simp))]; exact q
  · by_cases hbl : b = l
    · rw [hbl, upd_same]; exact fun z => nomatch z
    · rw [upd_ne hbl]
      have hb' : b = ad ∨ b = l ∨ b = m := by
        have : b ∈ [ad, l, m] := hb
        simpa using this
      rcases hb' with rfl | rfl | rfl
      · rw [h']; exact fun z => nomatch z
      · exact absurd rfl hbl
      · rw [h2']; exact fun z => nomatch z
  · rw [upd_ne nn.1]; exact h'
  · rw [upd_ne (Ne.symm nn.2.2)]; exact h2'
theorem st_appendP1 (k : Nat) {n : Str} {ad l m : Addr} {xs : List α} {ys : List β} {x : β} {kk} {q1 q2 q3 : Pos} {apos cpos : Pos} (he : EV X Γ e x) (hr : ST X rest (Γ.set k (.own (ownP i j ad l m xs (ys ++ [x])))) E) (hz : ys.length < sizeLine) (hg : Γ[k]? = some (.own (ownP i j ad l m xs ys)) := by rfl) (hN : X.N[k]? = some n := by rfl)
    (hv : Vis X.env.scope n := by first | exact Or.inl rfl | exact Or.inr (Or.inl rfl) | exact Or.inr (Or.inr rfl)) (hd : (n == ("__debug__" : Str)) = false := by decide) (hcd : (n == ("__classdict__" : Str)) = false := by decide) (hp : PlainIx (.Constant (.int 1) kk q2) := by intro _ _; rfl)
    (hbase : attributeBase (.Subscript (.Name n q1) (.Constant (.int 1) kk q2) q3) "append" X.env (eval (.Subscript (.Name n q1) (.Constant (.int 1) kk q2) q3) X.env) = eval (.Subscript (.Name n q1) (.Constant (.int 1) kk q2) q3) X.env := by rfl)
    (hfew : ((backTo cpos (starEach [e] X.env)).all (fun x => !x.1) && (backToKw cpos (keywordEach [] X.env)).all (fun x => x.1.isSome) && decide ([e].length + ([] : List Keyword).length + (if ([] : List Keyword).isEmpty then 0 else 1) < 30)) = true := by rfl)
    (hline : (apos.endLine == cpos.line) = true := by rfl) (hs : starEach [e] X.env = (false, eval e X.env) :: starEach [] X.env := by rfl) (hplain : (backTo cpos (starEach [] X.env)).any (·.1) = false := by rfl)
    (hsw : swapsWith (.Call (.Attribute (.Subscript (.Name n q1) (.Constant (.int 1) kk q2) q3) "append" apos) [e] [] cpos) none pos.line X.env = pure false := by rfl) :
    ST X (.Expr (.Call (.Attribute (.Subscript (.Name n q1) (.Constant (.int 1) kk q2) q3) "append" apos) [e] [] cpos) pos :: rest) Γ E := fun B F H σ D L ed => by
  obtain ⟨v, ev, ⟨rfl, nn, h, ⟨vs, h1, p1⟩, ws, h2, p2⟩, f⟩ := slot_own L hg
  refine WP.cons (ps_expr (pe_bm PySem.F.plainAttrs_list PySem.F.slot_list_append PySem.F.type_list_append mt_append (pe_ix ix_tup (pe_var hN hv hd hcd) pe_int hp) (pa_cons peW pa_nil hs) hbase hfew hline hs hplain) hsw) ?_
  refine ⟨.ref ad, ev, ad, [.ref l, .ref m], 1, .ref m, rfl, rfl, .inl (.inl h), rfl, .inl ⟨rfl, _, .inl (.inl h2)⟩, he B F H σ _ L fun v F1 H1 e1 r1 => ?_⟩
  have L1 := L.step e1
  obtain ⟨v', ev', ⟨rfl, _, h', ⟨vs', h1', p1'⟩, ws', h2', p2'⟩, f'⟩ := slot_own L1 hg
  refine ⟨m, ws', v, rfl, rfl, h2', by rw [Paired.length p2']; exact hz, ?_⟩
  refine hr B F1 _ σ D (L1.updO hg ev (fun b u hb q => ?_) (fun b hb => ?_) (fun b hb => .inl hb) ⟨rfl, nn, ?_, ⟨vs', ?_, p1'⟩, ws' ++ [v], upd_same, papp p2' (.cons r1 .nil)⟩) (ed.weak e1.ff)
  · rw [upd_ne (fun z => hb (by rw [z]; show m ∈ [ad, l, m]; simp))]; exact q
  · by_cases hbl : b = m
    · rw [hbl, upd_same]; exact fun z => nomatch z
    · rw [upd_ne hbl]
      have hb' : b = ad ∨ b = l ∨ b = m := by
        have : b ∈ [ad, l, m] := hb
        simpa using this
      rcases hb' with rfl | rfl | rfl
      · rw [h']; exact fun z => nomatch z
      · rw [h1']; exact fun z => nomatch z
      · exact absurd rfl hbl
  · rw [upd_ne nn.2.1]; exact h'
  · rw [upd_ne nn.2.2]; exact h1'

/-! ### new things handed over -/
def EAo (X : Cx) (Γ : List Slot) (es : List Expr) (P : List Slot → Prop) : Prop :=
  ∀ B F H σ Q, Lc X.K B F H σ Γ → (∀ vs A F' H', P A → Ext F H F' H' → VsOkO X.K F' H' vs A → Apart A → (∀ b, MA A b → H b = none) → Q vs H') → WA X es σ H Q
theorem MA_cons {s : Slot} {A : List Slot} {b : Addr} (h : MA (s :: A) b) : (∃ o, s = .own o ∧ b ∈ o.fp) ∨ MA A b := by
  obtain ⟨o, h1, h2⟩ := h
  rcases List.mem_cons.mp h1 with z | z
  · exact .inl ⟨o, z.symm, h2⟩
  · exact .inr ⟨o, z, h2⟩
theorem Apart.tail {s : Slot} {A : List Slot} (h : Apart A) (hs : ∀ o, s = .own o → ∀ b ∈ o.fp, ¬ MA A b) : Apart (s :: A) := fun x y o1 o2 hxy h1 h2 b hb1 hb2 => by
  cases x with
  | zero =>
    cases y with
    | zero => exact hxy rfl
    | succ y => exact hs o1 (Option.some.inj h1) b hb1 ⟨o2, List.mem_of_getElem? (by simpa using h2), hb2⟩
  | succ x =>
    cases y with
    | zero => exact hs o2 (Option.some.inj h2) b hb2 ⟨o1, List.mem_of_getElem? (by simpa using h1), hb1⟩
    | succ y => exact h x y o1 o2 (fun z => hxy (by rw [z])) (by simpa using h1) (by simpa using h2) b hb1 hb2
theorem eao_nil : EAo X Γ [] (fun A => A = []) := fun B F H σ Q L q => WA.of pa_nil (q [] [] F H rfl (Ext.refl L.same) trivial (fun x y o1 o2 _ h1 _ => by cases h1) fun b h => by obtain ⟨_, z, _⟩ := h; cases z)
theorem eao_v {x : α} {P : List Slot → Prop} (h : EV X Γ e x) (hr : EAo X Γ es P) (hs : starEach (e :: es) X.env = (false, eval e X.env) :: starEach es X.env := by rfl) : EAo X Γ (e :: es) (fun A => ∃ A', A = .val i x :: A' ∧ P A') := fun B F H σ Q L q =>
  WA.of (pa_cons peW paW hs) (h B F H σ _ L fun v F1 H1 e1 r1 => hr B F1 H1 σ _ (L.step e1) fun vs A F2 H2 hP e2 ok ap n => q (v :: vs) (.val i x :: A) F2 H2 ⟨A, rfl, hP⟩ (e1.trans e2) ⟨i.mono e2.ff r1, ok⟩ (ap.tail fun o z => nomatch z) fun b m => by
    rcases MA_cons m with ⟨o, z, _⟩ | m
    · cases z
    · exact e1.hs.free (n b m))
theorem eao_o {P0 : Own → Prop} {P : List Slot → Prop} (h : EX X Γ e (fun r => r = .own P0)) (hr : EAo X Γ es P) (hs : starEach (e :: es) X.env = (false, eval e X.env) :: starEach es X.env := by rfl) : EAo X Γ (e :: es) (fun A => ∃ o A', A = .own o :: A' ∧ P0 o ∧ P A') := fun B F H σ Q L q =>
  WA.of (pa_cons peW paW hs) (h B F H σ _ L fun r v F1 H1 er e1 r1 => by
    subst er
    obtain ⟨o, hP0, f, ok1⟩ := r1
    refine hr B F1 H1 σ _ (L.step e1) fun vs A F2 H2 hP e2 ok ap n => q (v :: vs) (.own o :: A) F2 H2 ⟨o, A, rfl, hP0, hP⟩ (e1.trans e2) ⟨o.stay e2.ff (fun b _ u z => e2.hs _ _ z) ok1, fun b hb => e2.nw b (f b hb).2 (o.there ok1 b hb), ok⟩ (ap.tail fun o' z b hb m => ?_) fun b m => ?_
    · cases z
      exact o.there ok1 b hb (n b m)
    · rcases MA_cons m with ⟨o', z, hb⟩ | m
      · cases z
        exact (f b hb).1
      · exact e1.hs.free (n b m))
theorem exo_new {xs : List α} (h : EN X Γ e xs) : EX X Γ e (fun r => r = .own fun o => ∃ a, o = ownL i a xs) := fun B F H σ Q L q =>
  h B F H σ _ L fun a vs F1 H1 e1 n1 f1 h1 p1 => q _ (.ref a) F1 H1 rfl e1 ⟨ownL i a xs, ⟨a, rfl⟩, fun b hb => by rw [List.mem_singleton.mp hb]; exact ⟨n1, f1⟩, rfl, vs, h1, p1⟩
theorem ex_callO {n : Str} {k : Nat} {ps : List Str} {S : Spec} {PA : List Slot → Prop} {P : Ret → Prop} (G : Has X.prog X.w X.K X.mg X.base k n ps S) (hr : Room k X.A) (ha : EAo X Γ (e :: es) PA)
    (hS : ∀ A, PA A → ∀ P' R', (∀ r, P r → P' r) → S A P' R') (hg : Gl X n := by rfl) (hd : (n == ("__debug__" : Str)) = false := by decide)
    (he : starEach (e :: es) X.env = (false, eval e X.env) :: starEach es X.env := by rfl) (hpl : (backTo pos (starEach es X.env)).any (·.1) = false := by rfl) : EX X Γ (.Call (.Name n p) (e :: es) [] pos) P := fun B F H σ Q L q => by
  obtain ⟨f, fd, hm, hk, hb, G⟩ := G.ex
  refine WE.of (pe_call G hr hg hm hk hb .nil passL paW hd he hpl) (ha B F H σ _ L fun vs A F1 H1 hP e1 r1 ap n1 => ?_)
  rw [List.append_nil]
  exact ⟨F1, A, (L.step e1).same, r1, ap, hS A hP _ _ fun r hr v F2 H2 e2 ok => q r v F2 H2 hr (e1.thenM e2 n1) (ok.imp fun b h => h.elim (fun z => e1.hs.free z) fun m => n1 b m)⟩
theorem ev_callO {n : Str} {k : Nat} {ps : List Str} {S : Spec} {PA : List Slot → Prop} {x : α} (G : Has X.prog X.w X.K X.mg X.base k n ps S) (hr : Room k X.A) (ha : EAo X Γ (e :: es) PA)
    (hS : ∀ A, PA A → ∀ P R, P (.val i x) → S A P R) (hg : Gl X n := by rfl) (hd : (n == ("__debug__" : Str)) = false := by decide)
    (he : starEach (e :: es) X.env = (false, eval e X.env) :: starEach es X.env := by rfl) (hpl : (backTo pos (starEach es X.env)).any (·.1) = false := by rfl) : EV X Γ (.Call (.Name n p) (e :: es) [] pos) x :=
  ev_of_ex (ex_callO G hr ha (fun A hA P' R' h => hS A hA P' R' (h _ rfl)) hg hd he hpl)
theorem st_setO (k : Nat) {n : Str} {P0 : Own → Prop} (he : EX X Γ e (fun r => r = .own P0)) (hr : ∀ o, P0 o → ST X rest (Γ.set k (.own o)) E) (hN : X.N.Nodup) (hi : X.N[k]? = some n := by rfl) (hx : L2.Loc X.env.scope n := by first | exact Or.inl rfl | exact Or.inr rfl)
    (hs : swapsWith e (some (.Name n p)) pos.line X.env = pure false := by rfl) (hf : X.fn n = true ∨ X.env.scope.names.lookup n = some .local := by first | exact .inl rfl | exact .inr rfl) : ST X (.Assign [.Name n p] e pos :: rest) Γ E := fun B F H σ D L ed =>
  WP.cons (ps_set hN hi hx peW hs hf) (he B F H σ _ L fun r v F1 H1 er e1 r1 => by
    subst er
    obtain ⟨o, hP0, f, ok1⟩ := r1
    exact hr o hP0 B F1 H1 _ D (L.putO k e1 f ok1) (ed.weak e1.ff))
/-- an own thing frozen for good -/
theorem ev_ofO {P0 : Own → Prop} {x : α} (h : EX X Γ e (fun r => r = .own P0)) (hx : ∀ o, P0 o → Froz o x) : EV X Γ e x := fun B F H σ Q L q =>
  h B F H σ _ L fun r v F1 H1 er e1 r1 => by
    subst er
    obtain ⟨o, hP0, f, ok1⟩ := r1
    have s1 := (L.step e1).same
    have f0 : ∀ b ∈ o.fp, F1 b = none := fun b hb => (f b hb).2
    exact q v (frz F1 H1 o.fp) H1 ⟨e1.ff.trans (frz_le f0), frz_same s1, e1.hh, fun b _ h1 h2 => by
      rw [frz_out (fun hb => h2 (f b hb).1)]; exact e1.nw b h1 h2⟩ (hx o hP0 s1 ok1 f0)
end
end Tw

namespace Tw
open PySem PySem.Spec PyProof.Rows L2 TL

/-- the body of a class's text, by number -/
def clsBody : Stmt → Nat → Stmt
  | .ClassDef _ _ _ body _ _ _ _ _ _ _, j => body.getD j (.Pass ⟨0, 0, 0, 0⟩)
  | st, _ => st
/-! ### exception classes with an __init__ -/
/-- a class over ValueError without __init__, whose __init__ others call -/
structure XBase (K : PySem.W.Frag) (mg : Str → Option Value) (n : Str) (D : Addr) : Prop where
  g : mg n = some (.ref D)
  sp : PySem.W.specialIn K (.ref D) "__getattribute__" = some (some (.builtin "type.__getattribute__"))
  rd : PySem.W.readsIn K D (.type "type") = true
  fc : PySem.W.findCls K (.ref D) (.type "type") "__init__" = some (.val (.builtin "ValueError.__init__"))
theorem pe_qinit {X : Cx} {n : Str} {D : Addr} {e : Expr} {es : List Expr} {ta : TA} {p1 p2 pos : Pos} {pl : Sem Bool} (T : XBase X.K X.mg n D) (ha : PA X (e :: es) ta) (hg : Gl X n := by rfl) (hd : (n == ("__debug__" : Str)) = false := by decide)
    (hc : eval (.Call (.Attribute (.Name n p1) "__init__" p2) (e :: es) [] pos) X.env = (do
      let ov ← eval (.Name n p1) X.env
      standAt p2.atName
      let (f, first) ← holding [ov] (getMethod ov "__init__" pl)
      callWith pos f first (backTo pos (starEach (e :: es) X.env)) (backToKw pos (keywordEach [] X.env))) := by rfl)
    (he : starEach (e :: es) X.env = (false, eval e X.env) :: starEach es X.env := by rfl) (hpl : (backTo pos (starEach es X.env)).any (·.1) = false := by rfl) :
    PE X (.Call (.Attribute (.Name n p1) "__init__" p2) (e :: es) [] pos) (tVeI X.K ta) := by
  refine ⟨fun pins s σ H Q I h => ?_⟩
  refine PySem.W.methodCall_KW (ld_glob I hg T.g ?_ hd) hc
  refine PySem.W.method_cls I.kIn T.sp (PySem.W.cls_value I.kIn T.rd T.fc (by decide +kernel) ?_)
  show wpAny _ _ (callWith pos (Value.builtin "ValueError.__init__") [] (backTo pos (starEach (e :: es) X.env)) []) _ _ _
  refine PyProof.Rows.callWith_method1 (thn (ha.run pos pins _ σ H _ (I.tok _) h) fun us s1 ⟨vs, H1, I1, r1, a, C, ws, ev, hl, T, ea, q⟩ => ?_) he hpl
  subst ev
  cases r1 with
  | @cons _ u0 _ ur ra rw' =>
    obtain rfl : u0 = Value.ref a := ra
    have hlen : ur.length ≤ sizeLine := by
      rw [← Paired.length rw', sizeLine_eq]
      omega
    exact oinit_ok T I1 ea hlen fun s' J => ⟨.non, H1, J, rfl, q⟩
/-- the written part's word on such a class and its __init__ -/
structure Dx (K : PySem.W.Frag) (n fld qual : Str) (st : Stmt) (ps : List Str) : Prop where
  ex : ∃ C fI fd, PySem.W.nsIn K mainGlobals n = some (some (.ref C)) ∧ OexC K C ∧ PySem.W.findIn K (.ref C) fld = some none ∧ PySem.W.findIn K (.ref C) "__init__" = some (some (.ref fI)) ∧ PySem.W.typeIn K (.ref fI) = some (.type "function") ∧ Fun K "__init__" qual st fI fd ∧ Binds K fd ps []
theorem Dx.fld {K : PySem.W.Frag} {n fld qual : Str} {st : Stmt} {ps : List Str} (D : Dx K n fld qual st ps) : XFld K n fld := fun C h => by
  obtain ⟨C', fI, fd, hC, _, hno, _⟩ := D.ex
  obtain rfl := ns_one hC h
  exact hno
section
variable {P : Program} {w : World} {K : PySem.W.Frag} {mg : Str → Option Value} {base : Heap}
theorem XInit.of {n fld qual : Str} {st : Stmt} {N : List Str} {x y : Str} (D : Dx K n fld qual st [x, y]) (sc : FnScope N [x, y] (defScope st)) (hN : N.length = 2)
    (body : ∀ (C fI : Addr) (T : OexC K C) (hno : PySem.W.findIn K (.ref C) fld = some none) (cdv : Value) (A : Around) (outer : List Env) (s : Shared) (H : Hp) (E : XK) (a : Addr) (v : V) (Q : VK), H a = some (exo a C none) →
      (∀ dx, H dx = none → dx ≠ a → Q .non (upd (upd H dx (exd dx [(fld, v)])) a (exo a C (some dx)))) → WP (cxOf (L2.CX P w) P w K mg base N qual (defScope st) fI cdv A outer s H E) (defBody st) { nx := fun _ H' => Q .non H', rt := Q } [some (.ref a), some v] H) :
    XInit P w K mg base 1 n fld := by
  obtain ⟨C, fI, fd, hC, T, hno, iC, tI, F, hb⟩ := D.ex
  refine ⟨fun C' hC' => ?_⟩
  obtain rfl := ns_one hC hC'
  refine ⟨T, fI, fd, [x, y], iC, tI, hb, F.okX sc (fun vs H Q E ⟨a, v, e, _⟩ => by rw [e]; rfl) (fun cdv A outer s H vs Q E hr h => ?_)⟩
  obtain ⟨a, v, rfl, ha, hq⟩ := h
  refine ⟨_, psW, ?_⟩
  have e1 : L2.start N [V.ref a, v] = [some (.ref a), some v] := by
    unfold L2.start
    rw [hN]
    rfl
  rw [e1]
  exact body C' fI T hno cdv A outer s H E a v Q ha hq
end

section
variable {X : Cx} {Γ : List Slot} {α β γ : Type} {i : Rep α} {j : Rep β} {l : Rep γ} {pos p p2 : Pos} {e a b c elt tg it : Expr} {es : List Expr} {E : SE} {rest body : List Stmt}
/-- enumerate(text) -/
theorem src_enumS {x : Tx} {elts : List Expr} {kk : Nat} {tpos p2 : Pos} (hm : X.mg "enumerate" = none) (ha : EV X Γ a x) (hg : Gl X "enumerate" := by rfl) (hs : starEach [a] X.env = [(false, eval a X.env)] := by rfl) : Src X Γ (.Tuple elts kk tpos) (.Call (.Name "enumerate" p) [a] [] p2) (enumL (x.map fun c => ([c] : Tx))) :=
  ⟨_, EnumS.pi_enumS hg hm (pa_cons peW pa_nil hs) hs, fun B F H σ R L q => ha B F H σ _ L fun v F1 H1 e1 r1 => by
    obtain rfl : v = .str (sx x) := r1
    refine ⟨sx x, rfl, q _ F1 H1 e1 fun F3 H3 s3 s4 => ⟨fun k y hy => ?_, ?_⟩⟩
    · obtain ⟨n, z⟩ := y
      obtain ⟨h1, h2⟩ := enumL_get hy
      rw [List.getElem?_map] at h2
      have hk : k < x.length := by
        cases q : x[k]? with
        | none => rw [q] at h2; cases h2
        | some c => exact (List.getElem?_eq_some_iff.mp q).1
      refine ⟨show k < (sx x).cps.size by show k < x.toArray.size; simpa using hk, fun v H4 hv => ?_⟩
      obtain ⟨T, c, rfl, hT, rfl, hc⟩ := hv
      have hc' : x[k]? = some c := by simpa [sx] using hc
      rw [hc'] at h2
      obtain rfl : ([c] : Tx) = z := Option.some.inj h2
      have ea := Ext.new (o := .tup [.int (k : Nat), .str ⟨#[c]⟩]) s4 hT
      exact ⟨_, ea, T, .int (k : Nat), .str ⟨#[c]⟩, rfl, upd_same, (show V.int (k : Nat) = V.int n by rw [show n = (k : Int) from h1]), rfl⟩
    · show (sx x).cps.size = _
      rw [enumL_len, List.length_map]
      show x.toArray.size = _
      simp⟩
/-- one sign in a text -/
theorem o_inS {c : Nat} {z : Tx} : OB X (compareOp .In) ([c] : Tx) z (decide (c ∈ z)) := ob_flat op_in_sign fun F H v u Q s r1 r2 q => ⟨c, sx z, r1, r2, q _ rfl⟩
theorem o_notInS {c : Nat} {z : Tx} : OB X (compareOp .NotIn) ([c] : Tx) z (!decide (c ∈ z)) := ob_flat op_notIn_sign fun F H v u Q s r1 r2 q => ⟨c, sx z, r1, r2, q _ rfl⟩
/-! ### more statements -/
theorem Lc.freeze {K : PySem.W.Frag} {B : Bs} {F H : Hp} {σ : L2.St} {k : Nat} {o : Own} {x : α} (L : Lc K B F H σ Γ) (hk : Γ[k]? = some (.own o)) (hx : Froz o x) : Lc K B (frz F H o.fp) H σ (Γ.set k (.val i x)) ∧ Same F (frz F H o.fp) := by
  obtain ⟨v, ev, ok, f⟩ := slot_own L hk
  have f0 : ∀ b ∈ o.fp, F b = none := fun b hb => (f b hb).1
  refine ⟨⟨⟨L.ext.ff.trans (frz_le f0), frz_same L.same, L.ext.hh, fun a hm h1 h2 => ?_⟩, L.there, by simp [L.len], fun q t hq => ?_, L.ap.put k rfl⟩, frz_le f0⟩
  · have na : a ∉ o.fp := fun hb => (f a hb).2.elim (fun z => h2 z) hm
    rw [frz_out na]
    exact L.ext.nwM a hm h1 h2
  · rcases get_set_slot hq with ⟨e1, e2, rfl⟩ | ⟨e1, hq'⟩
    · subst e1
      rw [ev]
      exact ⟨v, rfl, hx L.same ok f0⟩
    · have old := L.ok q t hq'
      cases t with
      | no => trivial
      | val i x => obtain ⟨v, e2, r⟩ := old; exact ⟨v, e2, i.mono (frz_le f0) r⟩
      | own o2 =>
        obtain ⟨u, eu, ok2, f2⟩ := old
        exact ⟨u, eu, o2.stay (frz_le f0) (fun _ _ _ h => h) ok2, fun b hb => ⟨by rw [frz_out (fun hb2 => L.ap k q o o2 e1 hk hq' b hb2 hb)]; exact (f2 b hb).1, (f2 b hb).2⟩⟩
/-- an own thing is data from here on -/
theorem st_freeze (k : Nat) {o : Own} {x : α} {sts : List Stmt} (hx : Froz o x) (h : ST X sts (Γ.set k (.val i x)) E) (hk : Γ[k]? = some (.own o) := by rfl) : ST X sts Γ E := fun B F H σ D L ed => by
  obtain ⟨L', s⟩ := L.freeze hk hx
  exact h B _ H σ D L' (ed.weak s)
/-- an answer of which something is known -/
theorem st_setEx (k : Nat) {n : Str} {G : α → Prop} (he : EX X Γ e (fun r => ∃ x, G x ∧ r = .val i x)) (hr : ∀ x, G x → ST X rest (Γ.set k (.val i x)) E) (hN : X.N.Nodup) (hi : X.N[k]? = some n := by rfl) (hx : L2.Loc X.env.scope n := by first | exact Or.inl rfl | exact Or.inr rfl)
    (hs : swapsWith e (some (.Name n p)) pos.line X.env = pure false := by rfl) (hf : X.fn n = true ∨ X.env.scope.names.lookup n = some .local := by first | exact .inl rfl | exact .inr rfl) : ST X (.Assign [.Name n p] e pos :: rest) Γ E := fun B F H σ D L ed =>
  WP.cons (ps_set hN hi hx peW hs hf) (he B F H σ _ L fun r v F1 H1 er e1 r1 => by
    obtain ⟨x, hG, rfl⟩ := er
    exact hr x hG B F1 H1 _ D ((L.step e1).putV k r1) (ed.weak e1.ff))
end
/-! ### a word and numbers, as a tuple -/
structure Why where
  w : Tx
  ns : List Int
  deriving DecidableEq
instance repWhy : Rep Why := ⟨fun _ H v x => ∃ a, v = .ref a ∧ H a = some (.tup (.str (sx x.w) :: x.ns.map V.int)), fun s ⟨a, e, h⟩ => ⟨a, e, s _ _ h⟩⟩
theorem dpInts {K : PySem.W.Frag} {F : Hp} : ∀ ns : List Int, DpAll K F (ns.map V.int) (ns.map PyData.int)
  | [] => .nil
  | n :: ns => .cons (.int n) (dpInts ns)
theorem layInts : ∀ ns : List Int, PyData.canLayAll0 (ns.map PyData.int) = true
  | [] => by rw [List.map_nil, PyData.canLayAll0]
  | n :: ns => by rw [List.map_cons, PyData.canLayAll0, PyData.canLay0, layInts ns]; rfl
theorem depInts : ∀ ns : List Int, PyData.depthAll (ns.map PyData.int) = 0
  | [] => by rw [List.map_nil, PyData.depthAll]
  | n :: ns => by rw [List.map_cons, PyData.depthAll, depInts ns]; simp [PyData.depth]
abbrev instDatTx : Dat (List Nat) := inferInstance
instance : Dat Why := ⟨fun x => .tuple (.str (sx x.w) :: x.ns.map PyData.int), fun x => TxOk x.w, 1, fun {K F v x} ⟨a, e, h⟩ => by subst e; exact .tup (.inl (.inl h)) (.cons (.str _) (dpInts _)),
  fun {x} h => by
    rw [PyData.canLay0, PyData.canLayAll0, layInts]
    have := (instDatTx).lay (x := x.w) h
    show (PyData.canLay0 (.str (sx x.w)) && true) = true
    rw [show PyData.canLay0 (.str (sx x.w)) = true from this]; rfl,
  fun x => by rw [PyData.depth, PyData.depthAll, depInts]; simp [PyData.depth], fun x y => by
    rw [PyData.eqv, PyData.eqvAll]
    have h1 := (instDatTx).eqv x.w y.w
    have h2 := eqvAll (α := Int) x.ns y.ns
    rw [show PyData.eqv (.str (sx x.w)) (.str (sx y.w)) = decide (x.w = y.w) from h1, show PyData.eqvAll (x.ns.map PyData.int) (y.ns.map PyData.int) = decide (x.ns = y.ns) from h2, ← Bool.decide_and]
    exact decide_eq_decide.mpr (by cases x; cases y; simp)⟩
instance : Ty Why := ⟨"tuple", fun {_ _ _ v x} s h => by obtain ⟨a, rfl, h⟩ := h; exact .base (.tup (s _ _ h))⟩
instance : NonN Why := ⟨fun h z => by obtain ⟨a, rfl, _⟩ := h; cases z⟩
section
variable {X : Cx} {Γ : List Slot} {pos p p2 : Pos} {a : Expr} {es : List Expr}
theorem ev_why {x1} {w : Tx} {ns : List Int} (ha : EV X Γ a w) (hs : EAs X Γ es ns) (hz : ns.length ≤ 999 := by simp) (hst : starEach (a :: es) X.env = (false, eval a X.env) :: starEach es X.env := by rfl) : EV X Γ (.Tuple (a :: es) x1 pos) (Why.mk w ns) := fun B F H σ Q L q =>
  WE.of (pe_tup (pa_cons peW paW hst)) (ha B F H σ _ L fun v F1 H1 e1 r1 => hs B F1 H1 σ _ (L.step e1) fun vs F2 H2 e2 r2 => ⟨by rw [List.length_cons, Paired.length r2]; exact sl_small (by omega), fun p hp => by
    have e12 := e1.trans e2
    have ea := Ext.new (o := .tup (v :: vs)) (L.step e12).same hp
    obtain rfl : v = .str (sx w) := r1
    have hv := Rps.ints r2
    subst hv
    exact q (.ref p) _ _ (e12.trans ea) ⟨p, rfl, upd_same⟩⟩)
/-- t[1:] of such a tuple -/
theorem ev_whyRest {x : Why} {k} (ha : EV X Γ a x) : EV X Γ (.Subscript a (.Slice (some (.Constant (.int 1) k p)) none none p2) pos) (Tup.mk x.ns) := fun B F H σ Q L q =>
  WE.of (pe_slice sl_tup peW (po_some pe_int) po_none) (ha B F H σ _ L fun v F1 H1 e1 r1 => by
    obtain ⟨ad, rfl, h⟩ := r1
    have s1 := (L.step e1).same
    refine ⟨1, rfl, ad, _, rfl, st_of s1 h, ?_, fun p hp => ?_⟩
    · rintro ⟨z, _⟩
      rw [show (1 : Int) = ((1 : Nat) : Int) from rfl, HT.sIx_nat] at z
      simp at z
    · have ea := Ext.new (o := .tup (x.ns.map V.int)) s1 hp
      have ec : cutV (.str (sx x.w) :: x.ns.map V.int) (some 1) none = x.ns.map V.int := by
        unfold cutV
        rw [show (1 : Int) = ((1 : Nat) : Int) from rfl, HT.sIx_nat]
        have h1 : min 1 (V.str (sx x.w) :: x.ns.map V.int).length = 1 := by simp
        rw [h1]
        show (x.ns.map V.int).take ((V.str (sx x.w) :: x.ns.map V.int).length - 1) = _
        rw [List.take_of_length_le (by simp)]
      rw [ec]
      exact q (.ref p) _ _ (e1.trans ea) ⟨p, _, rfl, upd_same, Rps.of_ints x.ns⟩)
/-- x + f(..), the answer some one-sign text -/
theorem ex_bin2 {b : Expr} {x : Tx} {P : Ret → Prop} (G : Nat → Prop) (ha : EV X Γ a x) (hb : EX X Γ b fun r => ∃ z, G z ∧ r = rv ([z] : Tx)) (hz : x.length + 1 ≤ sizeLine) (hP : ∀ z, G z → P (rv (x ++ [z]))) : EX X Γ (.BinOp a .Add b pos) P := fun B F H σ Q L q =>
  WE.of (pe_op op_add_str peW peW) (ha B F H σ _ L fun v F1 H1 e1 r1 => hb B F1 H1 σ _ (L.step e1) fun r u F2 H2 er e2 r2 => by
    obtain ⟨z, hG, rfl⟩ := er
    obtain rfl : v = .str (sx x) := r1
    obtain rfl : u = .str (sx [z]) := r2
    refine ⟨_, _, rfl, rfl, by rw [sx_len, sx_len]; exact hz, q (rv (x ++ [z])) _ F2 H2 (hP z hG) (e1.trans e2) ?_⟩
    show V.str _ = V.str _
    rw [sx_app])
/-- x + f(..) + y -/
theorem ex_bin3 {b c : Expr} {x y : Tx} {P : Ret → Prop} {p2 : Pos} (G : Nat → Prop) (ha : EV X Γ a x) (hb : EX X Γ b fun r => ∃ z, G z ∧ r = rv ([z] : Tx)) (hc : EV X Γ c y) (hz : x.length + 1 ≤ sizeLine) (hz2 : x.length + 1 + y.length ≤ sizeLine) (hP : ∀ z, G z → P (rv (x ++ [z] ++ y))) : EX X Γ (.BinOp (.BinOp a .Add b p2) .Add c pos) P := fun B F H σ Q L q =>
  WE.of (pe_op op_add_str peW peW) (ex_bin2 (P := fun r => ∃ z, G z ∧ r = rv (x ++ [z])) G ha hb hz (fun z hG => ⟨z, hG, rfl⟩) B F H σ _ L fun r v F1 H1 er e1 r1 => hc B F1 H1 σ _ (L.step e1) fun u F2 H2 e2 r2 => by
    obtain ⟨z, hG, rfl⟩ := er
    obtain rfl : v = .str (sx (x ++ [z])) := r1
    obtain rfl : u = .str (sx y) := r2
    refine ⟨_, _, rfl, rfl, by rw [sx_len, sx_len, List.length_append]; exact hz2, q (rv (x ++ [z] ++ y)) _ F2 H2 (hP z hG) (e1.trans e2) ?_⟩
    show V.str _ = V.str _
    rw [sx_app])
/-- an argument of which something is known -/
theorem eao_ex {α : Type} {i : Rep α} {G : α → Prop} {P : List Slot → Prop} {e : Expr} (h : EX X Γ e (fun r => ∃ x, G x ∧ r = .val i x)) (hr : EAo X Γ es P) (hs : starEach (e :: es) X.env = (false, eval e X.env) :: starEach es X.env := by rfl) : EAo X Γ (e :: es) (fun A => ∃ x A', G x ∧ A = .val i x :: A' ∧ P A') := fun B F H σ Q L q =>
  WA.of (pa_cons peW paW hs) (h B F H σ _ L fun r v F1 H1 er e1 r1 => by
    obtain ⟨x, hG, rfl⟩ := er
    exact hr B F1 H1 σ _ (L.step e1) fun vs A F2 H2 hP e2 ok ap n => q (v :: vs) (.val i x :: A) F2 H2 ⟨x, A, hG, rfl, hP⟩ (e1.trans e2) ⟨i.mono e2.ff r1, ok⟩ (ap.tail fun o z => nomatch z) fun b m => by
      rcases MA_cons m with ⟨o, z, _⟩ | m
      · cases z
      · exact e1.hs.free (n b m))
/-- a text cut at each sign c -/
def splitC (c : Nat) : Tx → Tx → List Tx
  | acc, [] => [acc]
  | acc, d :: r => if d = c then acc :: splitC c [] r else splitC c (acc ++ [d]) r
theorem spl_one {c : Nat} : ∀ (l acc : Tx), TL.spl [c] 0 acc l = splitC c acc l
  | [], acc => rfl
  | d :: r, acc => by
    rw [TL.spl, splitC]
    have hp : TL.pre [c] (d :: r) = decide (d = c) := by
      unfold TL.pre
      by_cases h : d = c
      · subst h; simp
      · simp [h]
    rw [hp]
    by_cases h : d = c
    · rw [if_pos (decide_eq_true h), if_pos h]
      exact congrArg _ (spl_one r [])
    · rw [if_neg (by simpa using h), if_neg h]
      exact spl_one r (acc ++ [d])
theorem splitC_len {c : Nat} : ∀ (l acc : Tx), (splitC c acc l).length ≤ l.length + 1 ∧ ∀ x ∈ splitC c acc l, x.length ≤ acc.length + l.length
  | [], acc => ⟨by simp [splitC], fun x hx => by
    have : x = acc := by simpa [splitC] using hx
    rw [this]; simp⟩
  | d :: r, acc => by
    rw [splitC]
    split
    · obtain ⟨h1, h2⟩ := splitC_len (c := c) r []
      refine ⟨by simp only [List.length_cons]; omega, fun x hx => ?_⟩
      rcases List.mem_cons.mp hx with rfl | hx
      · omega
      · have := h2 x hx
        simp only [List.length_cons, List.length_nil] at this ⊢
        omega
    · obtain ⟨h1, h2⟩ := splitC_len (c := c) r (acc ++ [d])
      refine ⟨by simp only [List.length_cons]; omega, fun x hx => ?_⟩
      have := h2 x hx
      simp only [List.length_append, List.length_cons, List.length_nil] at this ⊢
      omega
theorem splitC_ok {c : Nat} : ∀ (l acc : Tx), TxOk acc → TxOk l → ∀ x ∈ splitC c acc l, TxOk x
  | [], acc, h1, _ => fun x hx => by
    have : x = acc := by simpa [splitC] using hx
    rw [this]; exact h1
  | d :: r, acc, h1, h2 => by
    have hr : TxOk r := fun z hz => h2 z (List.mem_cons_of_mem _ hz)
    rw [splitC]
    split
    · intro x hx
      rcases List.mem_cons.mp hx with rfl | hx
      · exact h1
      · exact splitC_ok r [] (fun _ h => nomatch h) hr x hx
    · refine splitC_ok r (acc ++ [d]) (fun z hz => ?_) hr
      rcases List.mem_append.mp hz with hz | hz
      · exact h1 z hz
      · rw [List.mem_singleton.mp hz]; exact h2 d (List.mem_cons_self ..)
/-- text.split(c), c one sign -/
theorem en_split {o e : Expr} {x : Tx} {c : Nat} {apos : Pos} (ho : EV X Γ o x) (he : EV X Γ e ([c] : Tx)) (hc : c < 256) (hz : x.length + 2 ≤ sizeLine) (hs : starEach [e] X.env = [(false, eval e X.env)] := by rfl) (hbase : attributeBase o "split" X.env (eval o X.env) = eval o X.env := by rfl)
    (hline : (apos.endLine == pos.line) = true := by rfl) : EN X Γ (.Call (.Attribute o "split" apos) [e] [] pos) (splitC c [] x) := fun B F H σ Q L q =>
  WE.of (pe_split peW peW hs hbase hline) (ho B F H σ _ L fun v F1 H1 e1 r1 => ⟨⟨_, r1⟩, he B F1 H1 σ _ (L.step e1) fun u F2 H2 e2 r2 => by
    obtain rfl : v = .str (sx x) := r1
    obtain rfl : u = .str (sx [c]) := r2
    refine ⟨sx x, sx [c], rfl, rfl, by rw [sx_len]; rfl, by rw [sx_len]; exact hz, fun p hp => ?_⟩
    have e12 := e1.trans e2
    have s2 := (L.step e12).same
    have hk : (sx [c]).cps.all (· < 256) = true := by
      rw [← Array.all_toList]
      simpa [sx] using hc
    have es : Txt.split (sx x) (sx [c]) = (splitC c [] x).map sx := by
      refine TL.map_tl_inj ?_
      rw [TL.split_spl (sx x) (sx [c]) (by rw [tl_sx]; simp) (TL.kind_ok hk), tl_sx, tl_sx, spl_one, List.map_map]
      have : (tl ∘ sx) = (id : Tx → Tx) := funext fun x => tl_sx x
      rw [this, List.map_id]
    rw [es]
    exact q p _ F2 _ (e12.trans (Ext.apart s2 hp)) (e12.hs.free hp) (s2.free hp) upd_same (Rps.of_strs _)⟩)
theorem et_or4 {k m n o : Bool} {a b c d : Expr} (ha : ET X Γ a k) (hb : k = false → ET X Γ b m) (hc : k = false → m = false → ET X Γ c n) (hd : k = false → m = false → n = false → ET X Γ d o) : ET X Γ (.BoolOp .Or [a, b, c, d] pos) (k || (m || (n || o))) := et_w (ew_or ha fun h => ew_or (hb h) fun h2 => ew_or (hc h h2) fun h3 => ew_or1 (hd h h2 h3))
theorem et_and4 {k m n o : Bool} {a b c d : Expr} (ha : ET X Γ a k) (hb : k = true → ET X Γ b m) (hc : k = true → m = true → ET X Γ c n) (hd : k = true → m = true → n = true → ET X Γ d o) : ET X Γ (.BoolOp .And [a, b, c, d] pos) (k && (m && (n && o))) := et_w (ew_and ha fun h => ew_and (hb h) fun h2 => ew_and (hc h h2) fun h3 => ew_and1 (hd h h2 h3))
end
end Tw

namespace Law
open PySem PySem.Spec PyProof.Rows L2 TL Tw
def topS (i : Nat) : Stmt := PySem.Challenge.pw_quiltlaw_k02_pictures_as_texts.main.body.getD i (.Pass ⟨0, 0, 0, 0⟩)
def clsS (i j : Nat) : Stmt := clsBody (topS i) j
abbrev s_checked : Stmt := topS 15
abbrev N_checked : List Str := ["rows", "signs", "k", "row", "j", "sign"]
theorem sc_checked : FnScope N_checked ["rows", "signs"] (defScope s_checked) := ⟨rfl, rfl, rfl, by decide +kernel, rfl, by decide +kernel, by decide +kernel⟩
abbrev bk_checked := @L2.blkOk_by N_checked (defScope s_checked)
abbrev s_shown : Stmt := topS 16
abbrev N_shown : List Str := ["picture"]
theorem sc_shown : FnScope N_shown ["picture"] (defScope s_shown) := ⟨rfl, rfl, rfl, by decide +kernel, rfl, by decide +kernel, by decide +kernel⟩
abbrev bk_shown := @L2.blkOk_by N_shown (defScope s_shown)
abbrev s_read_picture : Stmt := topS 17
abbrev N_read_picture : List Str := ["text", "signs"]
theorem sc_read_picture : FnScope N_read_picture ["text", "signs"] (defScope s_read_picture) := ⟨rfl, rfl, rfl, by decide +kernel, rfl, by decide +kernel, by decide +kernel⟩
abbrev bk_read_picture := @L2.blkOk_by N_read_picture (defScope s_read_picture)
abbrev s_law_cell : Stmt := topS 19
abbrev N_law_cell : List Str := ["_law_script", "_law_k", "_law_cell_here", "_law_mixed"]
theorem sc_law_cell : FnScope N_law_cell ["_law_script", "_law_k"] (defScope s_law_cell) := ⟨rfl, rfl, rfl, by decide +kernel, rfl, by decide +kernel, by decide +kernel⟩
abbrev bk_law_cell := @L2.blkOk_by N_law_cell (defScope s_law_cell)
abbrev s_law_whole : Stmt := topS 20
abbrev N_law_whole : List Str := ["_law_found"]
theorem sc_law_whole : FnScope N_law_whole ["_law_found"] (defScope s_law_whole) := ⟨rfl, rfl, rfl, by decide +kernel, rfl, by decide +kernel, by decide +kernel⟩
abbrev bk_law_whole := @L2.blkOk_by N_law_whole (defScope s_law_whole)
abbrev s_law_signs : Stmt := topS 21
abbrev N_law_signs : List Str := ["_law_cell_here", "_law_most", "_law_letters", "_law_step", "_law_k"]
theorem sc_law_signs : FnScope N_law_signs ["_law_cell_here", "_law_most"] (defScope s_law_signs) := ⟨rfl, rfl, rfl, by decide +kernel, rfl, by decide +kernel, by decide +kernel⟩
abbrev bk_law_signs := @L2.blkOk_by N_law_signs (defScope s_law_signs)
abbrev s_law_row : Stmt := topS 22
abbrev N_law_row : List Str := ["_law_cell_here", "_law_wide", "_law_signs_here", "_law_number", "_law_row_here", "_law_j"]
theorem sc_law_row : FnScope N_law_row ["_law_cell_here", "_law_wide", "_law_signs_here"] (defScope s_law_row) := ⟨rfl, rfl, rfl, by decide +kernel, rfl, by decide +kernel, by decide +kernel⟩
abbrev bk_law_row := @L2.blkOk_by N_law_row (defScope s_law_row)
abbrev s_law_any_sign : Stmt := topS 23
abbrev N_law_any_sign : List Str := ["_law_number", "_law_some"]
theorem sc_law_any_sign : FnScope N_law_any_sign ["_law_number"] (defScope s_law_any_sign) := ⟨rfl, rfl, rfl, by decide +kernel, rfl, by decide +kernel, by decide +kernel⟩
abbrev bk_law_any_sign := @L2.blkOk_by N_law_any_sign (defScope s_law_any_sign)
abbrev s_law_why : Stmt := topS 24
abbrev N_law_why : List Str := ["_law_rows", "_law_signs_here", "_law_k", "_law_row_here", "_law_j", "_law_sign"]
theorem sc_law_why : FnScope N_law_why ["_law_rows", "_law_signs_here"] (defScope s_law_why) := ⟨rfl, rfl, rfl, by decide +kernel, rfl, by decide +kernel, by decide +kernel⟩
abbrev bk_law_why := @L2.blkOk_by N_law_why (defScope s_law_why)
abbrev s_law_texts : Stmt := topS 25
abbrev N_law_texts : List Str := ["_law_found", "_law_due", "_law_row_here"]
theorem sc_law_texts : FnScope N_law_texts ["_law_found", "_law_due"] (defScope s_law_texts) := ⟨rfl, rfl, rfl, by decide +kernel, rfl, by decide +kernel, by decide +kernel⟩
abbrev bk_law_texts := @L2.blkOk_by N_law_texts (defScope s_law_texts)
abbrev s_law_why_of : Stmt := topS 26
abbrev N_law_why_of : List Str := ["_law_error", "_law_number"]
theorem sc_law_why_of : FnScope N_law_why_of ["_law_error"] (defScope s_law_why_of) := ⟨rfl, rfl, rfl, by decide +kernel, rfl, by decide +kernel, by decide +kernel⟩
abbrev bk_law_why_of := @L2.blkOk_by N_law_why_of (defScope s_law_why_of)
abbrev s_law_picture : Stmt := topS 27
abbrev N_law_picture : List Str := ["_law_script", "_law_at", "_law_rows", "_law_wide", "_law_signs_here", "_law_k"]
theorem sc_law_picture : FnScope N_law_picture ["_law_script", "_law_at", "_law_rows", "_law_wide", "_law_signs_here"] (defScope s_law_picture) := ⟨rfl, rfl, rfl, by decide +kernel, rfl, by decide +kernel, by decide +kernel⟩
abbrev bk_law_picture := @L2.blkOk_by N_law_picture (defScope s_law_picture)
abbrev s_law_split : Stmt := topS 28
abbrev N_law_split : List Str := ["_law_text", "_law_rows", "_law_sign"]
theorem sc_law_split : FnScope N_law_split ["_law_text"] (defScope s_law_split) := ⟨rfl, rfl, rfl, by decide +kernel, rfl, by decide +kernel, by decide +kernel⟩
abbrev bk_law_split := @L2.blkOk_by N_law_split (defScope s_law_split)
abbrev s_law_spoilt : Stmt := topS 29
abbrev N_law_spoilt : List Str := ["_law_text", "_law_cell_here", "_law_rest", "_law_at", "_law_sign"]
theorem sc_law_spoilt : FnScope N_law_spoilt ["_law_text", "_law_cell_here"] (defScope s_law_spoilt) := ⟨rfl, rfl, rfl, by decide +kernel, rfl, by decide +kernel, by decide +kernel⟩
abbrev bk_law_spoilt := @L2.blkOk_by N_law_spoilt (defScope s_law_spoilt)
abbrev s_law_read : Stmt := topS 30
abbrev N_law_read : List Str := ["_law_text", "_law_signs_here", "_law_rows", "_law_due", "_law_found", "_law_error", "e"]
theorem sc_law_read : FnScope N_law_read ["_law_text", "_law_signs_here"] (defScope s_law_read) := ⟨rfl, rfl, rfl, by decide +kernel, rfl, by decide +kernel, by decide +kernel⟩
abbrev bk_law_read := @L2.blkOk_by N_law_read (defScope s_law_read)
abbrev s_law : Stmt := topS 31
abbrev N_law : List Str := ["_law_script", "_law_signs_here", "_law_size", "_law_picture_here", "_law_text", "_law_row_here", "_law_handed", "_law_found", "_law_spoilt_here"]
theorem sc_law : FnScope N_law ["_law_script"] (defScope s_law) := ⟨rfl, rfl, rfl, by decide +kernel, rfl, by decide +kernel, by decide +kernel⟩
abbrev bk_law := @L2.blkOk_by N_law (defScope s_law)
abbrev s_NoPicture_init : Stmt := clsS 2 0
abbrev N_NoPicture_init : List Str := ["self", "why"]
theorem sc_NoPicture_init : FnScope N_NoPicture_init ["self", "why"] (defScope s_NoPicture_init) := ⟨rfl, rfl, rfl, by decide +kernel, rfl, by decide +kernel, by decide +kernel⟩
structure Txt (K : PySem.W.Frag) (mg : Str → Option Value) : Prop where
  b_ValueError : mg "ValueError" = none
  b_all : mg "all" = none
  b_bool : mg "bool" = none
  b_enumerate : mg "enumerate" = none
  b_int : mg "int" = none
  b_isinstance : mg "isinstance" = none
  b_len : mg "len" = none
  b_list : mg "list" = none
  b_range : mg "range" = none
  b_str : mg "str" = none
  b_tuple : mg "tuple" = none
  c_MOST : ∃ t, mg "MOST" = some (.int 6 t)
  x_QuiltError : XC K mg "QuiltError"
  x_NoPicture : XC K mg "NoPicture"
  x_NoFit : XC K mg "NoFit"
  x_NoRule : XC K mg "NoRule"
  x_NoGrammar : XC K mg "NoGrammar"
  x_NoText : XC K mg "NoText"
  x_NoTree : XC K mg "NoTree"
  x_NoWord : XC K mg "NoWord"
  x_NoName : XC K mg "NoName"
  x_TooMany : XC K mg "TooMany"
  x_NoNumber : XC K mg "NoNumber"
  x_NoRow : XC K mg "NoRow"
  i_NoPicture : Dx K "NoPicture" "why" "NoPicture.__init__" s_NoPicture_init ["self", "why"]
  q_QuiltError : ∃ D, XBase K mg "QuiltError" D
  s_NoPicture_NoFit : XSub K "NoPicture" "NoFit" false
  s_NoPicture_NoGrammar : XSub K "NoPicture" "NoGrammar" false
  s_NoPicture_NoName : XSub K "NoPicture" "NoName" false
  s_NoPicture_NoNumber : XSub K "NoPicture" "NoNumber" false
  s_NoPicture_NoRow : XSub K "NoPicture" "NoRow" false
  s_NoPicture_NoRule : XSub K "NoPicture" "NoRule" false
  s_NoPicture_NoText : XSub K "NoPicture" "NoText" false
  s_NoPicture_NoTree : XSub K "NoPicture" "NoTree" false
  s_NoPicture_NoWord : XSub K "NoPicture" "NoWord" false
  s_NoPicture_TooMany : XSub K "NoPicture" "TooMany" false
  s_NoPicture_QuiltError : XSub K "NoPicture" "QuiltError" true
  s_NoPicture_NoPicture : XSub K "NoPicture" "NoPicture" true
  t_NoPicture_ValueError : XSubT K "NoPicture" "ValueError" true
  f_checked : Df K mg "checked" s_checked ["rows", "signs"]
  f_shown : Df K mg "shown" s_shown ["picture"]
  f_read_picture : Df K mg "read_picture" s_read_picture ["text", "signs"]
  f_law_cell : Df K mg "_law_cell" s_law_cell ["_law_script", "_law_k"]
  f_law_whole : Df K mg "_law_whole" s_law_whole ["_law_found"]
  f_law_signs : Df K mg "_law_signs" s_law_signs ["_law_cell_here", "_law_most"]
  f_law_row : Df K mg "_law_row" s_law_row ["_law_cell_here", "_law_wide", "_law_signs_here"]
  f_law_any_sign : Df K mg "_law_any_sign" s_law_any_sign ["_law_number"]
  f_law_why : Df K mg "_law_why" s_law_why ["_law_rows", "_law_signs_here"]
  f_law_texts : Df K mg "_law_texts" s_law_texts ["_law_found", "_law_due"]
  f_law_why_of : Df K mg "_law_why_of" s_law_why_of ["_law_error"]
  f_law_picture : Df K mg "_law_picture" s_law_picture ["_law_script", "_law_at", "_law_rows", "_law_wide", "_law_signs_here"]
  f_law_split : Df K mg "_law_split" s_law_split ["_law_text"]
  f_law_spoilt : Df K mg "_law_spoilt" s_law_spoilt ["_law_text", "_law_cell_here"]
  f_law_read : Df K mg "_law_read" s_law_read ["_law_text", "_law_signs_here"]
section
variable {P : Program} {w : World} {K : PySem.W.Frag} {mg : Str → Option Value} {base : Heap}
theorem init_NoPicture (T : Txt K mg) : XInit P w K mg base 1 "NoPicture" "why" := XInit.of T.i_NoPicture sc_NoPicture_init rfl fun C fI TC hno cdv A outer s H E a v Q ha hq => by
  obtain ⟨D, bD⟩ := T.q_QuiltError
  exact WP.cons (ps_expr (pe_qinit bD (pa_cons (pe_var (i := 0) rfl (.inl rfl)) (pa_cons pe_str pa_nil))) rfl) ⟨_, rfl, a, C, _, rfl, by decide, TC, ha, WP.cons (ps_ost (pe_var (i := 0) rfl (.inl rfl)) (pe_var (i := 1) rfl (.inl rfl)) rfl) ⟨v, rfl, _, rfl, a, C, rfl, TC, hno, .inl ⟨ha, fun dx h1 h2 => WP.of pss_nil (hq dx h1 h2)⟩⟩⟩
end
/-! ### pictures -/
abbrev Pic := List Tx
/-- a picture of r rows and c columns -/
structure Pk (p : Pic) (r c : Nat) : Prop where
  len : p.length = r
  row : ∀ x ∈ p, x.length = c
  r0 : 0 < r
  c0 : 0 < c
  r6 : r ≤ 6
  c6 : c ≤ 6
theorem Pk.hd {p : Pic} {r c : Nat} (h : Pk p r c) : ∃ x q, p = x :: q ∧ x.length = c := by
  cases p with
  | nil => have := h.len; have := h.r0; simp at *; omega
  | cons x q => exact ⟨x, q, rfl, h.row x (List.mem_cons_self ..)⟩
theorem Pk.head {p : Pic} {r c : Nat} (h : Pk p r c) : atI p 0 = some (p.headD []) ∧ (p.headD []).length = c := by
  obtain ⟨x, q, rfl, e⟩ := h.hd
  exact ⟨atI_nat (j := 0) rfl, e⟩
def quarter (p : Pic) : Pic := (List.range (p.headD []).length).map fun j => p.reverse.map fun row => row.getD j 0
def mirrored (p : Pic) : Pic := p.map List.reverse
def quarters : Nat → Pic → Pic
  | 0, p => p
  | n + 1, p => quarter (quarters n p)
def turned (p : Pic) (t : Nat) : Pic := quarters (t % 4) (if 4 ≤ t then mirrored p else p)
theorem Pk.quarter {p : Pic} {r c : Nat} (h : Pk p r c) : Pk (quarter p) c r := by
  have hl := h.head.2
  refine ⟨by unfold Law.quarter; rw [List.length_map, List.length_range, hl], fun x hx => ?_, h.c0, h.r0, h.c6, h.r6⟩
  unfold Law.quarter at hx
  obtain ⟨j, _, rfl⟩ := List.mem_map.mp hx
  rw [List.length_map, List.length_reverse, h.len]
theorem Pk.mirrored {p : Pic} {r c : Nat} (h : Pk p r c) : Pk (mirrored p) r c := by
  refine ⟨by unfold Law.mirrored; rw [List.length_map, h.len], fun x hx => ?_, h.r0, h.c0, h.r6, h.c6⟩
  unfold Law.mirrored at hx
  obtain ⟨y, hy, rfl⟩ := List.mem_map.mp hx
  rw [List.length_reverse, h.row y hy]
theorem Pk.quarters {p : Pic} {r c : Nat} (h : Pk p r c) : ∀ n, Pk (quarters n p) (if n % 2 = 0 then r else c) (if n % 2 = 0 then c else r)
  | 0 => h
  | n + 1 => by
    have ih := (Pk.quarters h n).quarter
    by_cases e : n % 2 = 0
    · rw [if_pos e, if_pos e] at ih
      rw [if_neg (by omega), if_neg (by omega)]
      exact ih
    · rw [if_neg e, if_neg e] at ih
      rw [if_pos (by omega), if_pos (by omega)]
      exact ih
theorem Pk.turned {p : Pic} {r c : Nat} (h : Pk p r c) (t : Nat) : Pk (turned p t) (if t % 2 = 0 then r else c) (if t % 2 = 0 then c else r) := by
  unfold Law.turned
  have e : (t % 4) % 2 = t % 2 := by omega
  split
  · have := h.mirrored.quarters (t % 4)
    rwa [e] at this
  · have := h.quarters (t % 4)
    rwa [e] at this
theorem Pk.at_row {p : Pic} {r c : Nat} (h : Pk p r c) {i : Nat} (hi : i < r) : atI p (i : Int) = some (p.getD i []) ∧ (p.getD i []).length = c := by
  have hl := h.len
  have e : p[i]? = some p[i] := List.getElem?_eq_getElem (by omega)
  refine ⟨?_, ?_⟩
  · rw [List.getD_eq_getElem?_getD, e]; exact atI_nat e
  · rw [List.getD_eq_getElem?_getD, e]; exact h.row _ (List.getElem_mem _)
def quarterS : Tw.Spec := fun A P _ => ∃ (p : Pic) (r c : Nat), A = [vl p] ∧ Pk p r c ∧ P (rn (quarter p))
def mirroredS : Tw.Spec := fun A P _ => ∃ (p : Pic) (r c : Nat), A = [vl p] ∧ Pk p r c ∧ P (rn (mirrored p))
def turnedS : Tw.Spec := fun A P _ => ∃ (p : Pic) (r c : Nat) (t : Int), A = [vl p, vl t] ∧ Pk p r c ∧ 0 ≤ t ∧ P (rn (turned p t.toNat))
theorem sl6 {n : Nat} (h : n ≤ 6) : n ≤ sizeLine := Nat.le_trans h (by decide)

/-! ### the law's draws -/
def lawCell (s : List Int) (k : Int) : Int :=
  let c := if k < s.length then s.getD k.toNat 0 else 0
  let m := (c % 2147483647 + 7919 * k + 1) * 48271 % 2147483647
  c / 2147483647 * 2147483647 + (m * 69621 + k) % 2147483647
def lawSigns (c m : Int) : Tx := (rng 0 (1 + c % m).toNat).map fun k => 97 + ((c / m / 4 + k * (([1, 3, 5, 7] : List Int).getD (c / m % 4).toNat 0)) % 26).toNat
def rowSt (c : Int) (signs : Tx) : Nat → Int × Tx
  | 0 => (c % 2147483647, [])
  | j + 1 =>
    let q := rowSt c signs j
    let n := (q.1 * 48271 + (j : Int) * (j : Int) + 7) % 2147483647
    (n, q.2 ++ [signs.getD (n / 5 % signs.length).toNat 0])
def lawRow (c : Int) (wide : Nat) (signs : Tx) : Tx := (rowSt c signs wide).2
def lawPicture (s : List Int) (at_ : Int) (rows wide : Nat) (signs : Tx) : Pic := (rng 0 rows).map fun k => lawRow (lawCell s (at_ + k)) wide signs
theorem lawSigns_len {c m : Int} (hm : 0 < m) (h8 : m ≤ 8) : 0 < (lawSigns c m).length ∧ (lawSigns c m).length ≤ 8 := by
  unfold lawSigns
  rw [List.length_map, rng_len]
  have := Int.emod_nonneg c (by omega : m ≠ 0)
  have := Int.emod_lt_of_pos c hm
  omega
theorem lawSigns_ok {c m : Int} : TxOk (lawSigns c m) := by
  intro x hx
  unfold lawSigns at hx
  obtain ⟨k, _, rfl⟩ := List.mem_map.mp hx
  have := Int.emod_lt_of_pos (c / m / 4 + k * (([1, 3, 5, 7] : List Int).getD (c / m % 4).toNat 0)) (by decide : (0 : Int) < 26)
  omega
theorem rowSt_len (c : Int) (signs : Tx) : ∀ n, (rowSt c signs n).2.length = n
  | 0 => rfl
  | n + 1 => by
    show (_ ++ _ : Tx).length = _
    rw [List.length_append, rowSt_len c signs n]
    rfl
theorem getD_ok {signs : Tx} (h : TxOk signs) (n : Nat) : signs.getD n 0 < 1114112 := by
  rw [List.getD_eq_getElem?_getD]
  cases e : signs[n]? with
  | none => decide
  | some x => exact h x (List.mem_of_getElem? e)
theorem rowSt_ok (c : Int) {signs : Tx} (h : TxOk signs) : ∀ n, TxOk (rowSt c signs n).2
  | 0 => fun _ hx => nomatch hx
  | n + 1 => fun x hx => by
    rcases List.mem_append.mp hx with hx | hx
    · exact rowSt_ok c h n x hx
    · rw [List.mem_singleton.mp hx]; exact getD_ok h _
theorem lawPicture_pk {s : List Int} {at_ : Int} {r c : Nat} {signs : Tx} (hr : 0 < r) (hr6 : r ≤ 6) (hc : 0 < c) (hc6 : c ≤ 6) : Pk (lawPicture s at_ r c signs) r c :=
  ⟨by unfold lawPicture; rw [List.length_map, rng_len], fun x hx => by
    unfold lawPicture at hx
    obtain ⟨k, _, rfl⟩ := List.mem_map.mp hx
    exact rowSt_len _ _ _, hr, hc, hr6, hc6⟩
def PicOk (p : Pic) : Prop := ∀ x ∈ p, TxOk x
theorem lawPicture_ok {s : List Int} {at_ : Int} {r c : Nat} {signs : Tx} (h : TxOk signs) : PicOk (lawPicture s at_ r c signs) := fun x hx => by
  unfold lawPicture at hx
  obtain ⟨k, _, rfl⟩ := List.mem_map.mp hx
  exact rowSt_ok _ h _
def cellS : Tw.Spec := fun A P _ => ∃ (s : Scr) (k : Int), A = [vl s, vl k] ∧ s.l.length ≤ 63 ∧ 0 ≤ k ∧ P (rv (lawCell s.l k))
def signsS : Tw.Spec := fun A P _ => ∃ (c m : Int), A = [vl c, vl m] ∧ 0 < m ∧ m ≤ 8 ∧ P (rv (lawSigns c m))
def rowS : Tw.Spec := fun A P _ => ∃ (c : Int) (wide : Nat) (signs : Tx), A = [vl c, vl (wide : Int), vl signs] ∧ wide ≤ 100 ∧ 0 < signs.length ∧ signs.length ≤ 1000 ∧ P (rv (lawRow c wide signs))
def pictureS : Tw.Spec := fun A P _ => ∃ (s : Scr) (at_ : Int) (rows wide : Nat) (signs : Tx), A = [vl s, vl at_, vl (rows : Int), vl (wide : Int), vl signs] ∧ s.l.length ≤ 63 ∧ 0 ≤ at_ ∧ rows ≤ 100 ∧ wide ≤ 100 ∧ 0 < signs.length ∧ signs.length ≤ 1000 ∧ P (rn (lawPicture s.l at_ rows wide signs))
theorem abc_at : ∀ n, n < 26 → (tx "abcdefghijklmnopqrstuvwxyz")[n]? = some (97 + n) := by decide +kernel
section
variable {P : Program} {w : World} {K : PySem.W.Frag} {mg : Str → Option Value} {base : Heap}
theorem mulR {i j : Int} (h1 : -(2 ^ 64) < j := by decide) (h2 : j < 2 ^ 64 := by decide) : CMul i j := .inr ⟨h1, h2⟩
theorem mulL {i j : Int} (h1 : -(2 ^ 64) < i := by decide) (h2 : i < 2 ^ 64 := by decide) : CMul i j := .inl ⟨h1, h2⟩
theorem divK {i j : Int} (h : 0 < j := by decide) (h2 : j.natAbs.log2 < 9000 := by decide) : CDivW i j := ⟨h, h2⟩
theorem divS {i j : Int} (h : 0 < j) (h2 : j < 2 ^ 30) : CDivW i j := ⟨h, by
  have : j.natAbs < 2 ^ 30 := by omega
  exact Nat.lt_trans ((Nat.log2_lt (by omega)).mpr this) (by decide)⟩
theorem ok_law_cell (T : Txt K mg) : Has P w K mg base 1 "_law_cell" ["_law_script", "_law_k"] cellS := by
  refine Has.of T.f_law_cell sc_law_cell (fun A Q R ⟨s, k, e, _⟩ => by rw [e]; rfl) fun f cdv A outer s0 H E hr Γ Q R ⟨s, k, e, hl, hk, hq⟩ => ?_
  subst e
  refine st_set 2 ev_int ?_ sc_law_cell.nd
  have go : ∀ c : Int, c = (if k < s.l.length then s.l.getD k.toNat 0 else 0) → Tw.ST (cxOf (L2.CX P w) P w K mg base N_law_cell "_law_cell" (defScope s_law_cell) f cdv A outer s0 H E).nox ((defBody s_law_cell).drop 2) [vl s, vl k, vl c, .no] (fin Q) := by
    intro c ec
    refine st_set 3 (ev_bin (o_mod (by decide)) (ev_bin (o_mul mulR) (ev_bin o_add (ev_bin o_add (ev_bin (o_mod (by decide)) (ev_var 2) ev_int) (ev_bin (o_mul mulL) ev_int (ev_var 1))) ev_int) ev_int) ev_int) ?_ sc_law_cell.nd
    refine st_retV (ev_bin o_add (ev_bin (o_mul mulR) (ev_bin (o_div divK) (ev_var 2) ev_int) ev_int) (ev_bin (o_mod (by decide)) (ev_bin o_add (ev_bin (o_mul mulR) (ev_var 3) ev_int) (ev_var 1)) ev_int)) ?_
    unfold lawCell at hq
    rw [← ec] at hq
    exact hq
  refine st_if (et_cmp o_lt (ev_var 1) (ev_lenScr T.b_len (ev_var 0))) (fun h => ?_) (fun h => ?_)
  · have h1 := of_decide_eq_true h
    have hlt : k.toNat < s.l.length := by omega
    refine st_set 2 (ev_ixScr (x := s.l.getD k.toNat 0) (ev_var 0) (ev_var 1) ?_) (st_nil (go _ ?_)) sc_law_cell.nd
    · have := atI_nat (xs := s.l) (j := k.toNat) (List.getElem?_eq_getElem hlt)
      rw [show ((k.toNat : Nat) : Int) = k by omega] at this
      rw [this, List.getD_eq_getElem?_getD, List.getElem?_eq_getElem hlt]; rfl
    · rw [if_pos h1]
  · have h1 := of_decide_eq_false h
    refine st_nil (go _ ?_)
    rw [if_neg h1]
theorem ok_law_signs (T : Txt K mg) : Has P w K mg base 1 "_law_signs" ["_law_cell_here", "_law_most"] signsS := by
  refine Has.of T.f_law_signs sc_law_signs (fun A Q R ⟨c, m, e, _⟩ => by rw [e]; rfl) fun f cdv A outer s0 H E hr Γ Q R ⟨c, m, e, hm, h8, hq⟩ => ?_
  subst e
  refine st_set 2 (ev_str _) ?_ sc_law_signs.nd
  have dm : CDivW c m := divS hm (by omega)
  have hx : 0 ≤ c / m % 4 ∧ c / m % 4 < 4 := ⟨Int.emod_nonneg _ (by decide), Int.emod_lt_of_pos _ (by decide)⟩
  have hs : atI ([1, 3, 5, 7] : List Int) (c / m % 4) = some (([1, 3, 5, 7] : List Int).getD (c / m % 4).toNat 0) := by
    have h4 : (c / m % 4).toNat < 4 := by omega
    have := atI_nat (xs := ([1, 3, 5, 7] : List Int)) (j := (c / m % 4).toNat) (List.getElem?_eq_getElem h4)
    rw [show (((c / m % 4).toNat : Nat) : Int) = c / m % 4 by omega] at this
    rw [this, List.getD_eq_getElem?_getD, List.getElem?_eq_getElem h4]; rfl
  refine st_set 3 (ev_ixT (ev_tupH (es_cons ev_int (es_cons ev_int (es_cons ev_int (es_cons ev_int es_nil))))) (ev_bin (o_mod (by decide)) (ev_bin (o_div dm) (ev_var 0) (ev_var 1)) ev_int) hs) ?_ sc_law_signs.nd
  have hcm := Int.emod_nonneg c (by omega : m ≠ 0)
  have hcm2 := Int.emod_lt_of_pos c hm
  generalize est : (([1, 3, 5, 7] : List Int).getD (c / m % 4).toNat 0) = st
  have hst : st = 1 ∨ st = 3 ∨ st = 5 ∨ st = 7 := by
    have : ∀ n < 4, (([1, 3, 5, 7] : List Int).getD n 0) = 1 ∨ (([1, 3, 5, 7] : List Int).getD n 0) = 3 ∨ (([1, 3, 5, 7] : List Int).getD n 0) = 5 ∨ (([1, 3, 5, 7] : List Int).getD n 0) = 7 := by decide
    rw [← est]; exact this _ (by omega)
  refine st_retV (ev_join (ev_str "") (ev_of_en (en_lc (α := Int) (β := Tx) (own := [("_law_k", 4)]) (f := fun k => [97 + ((c / m / 4 + k * st) % 26).toNat]) (src_range T.b_range (ev_bin o_add ev_int (ev_bin (o_mod hm) (ev_var 0) (ev_var 1))) (by omega) (by omega)) (tg_name 4) (fun _ _ _ _ _ => pgn 4 sc_law_signs.nd)
    (fun x hx _ _ _ _ _ => ev_ixS (ev_var 2) (ev_bin (o_mod (by decide)) (ev_bin o_add (ev_bin (o_div divK) (ev_bin (o_div dm) (ev_var 0) (ev_var 1)) ev_int) (ev_bin (o_mul (x := x) (y := st) (.inr (by omega))) (ev_var 4) (ev_var 3))) ev_int) ?_ ?_) sc_law_signs.nd (ok := bk_law_signs (by decide +kernel)) (hz := ?_))) ?_) ?_
  · have h1 := Int.emod_nonneg (c / m / 4 + x * st) (by decide : (26 : Int) ≠ 0)
    have h2 := Int.emod_lt_of_pos (c / m / 4 + x * st) (by decide : (0 : Int) < 26)
    have := atI_nat (abc_at ((c / m / 4 + x * st) % 26).toNat (by omega))
    rw [show ((((c / m / 4 + x * st) % 26).toNat : Nat) : Int) = (c / m / 4 + x * st) % 26 by omega] at this
    exact this
  · exact sl_small (by decide +kernel)
  · rw [rng_len]; exact sl_small (by omega)
  · show _ + _ * 0 ≤ _
    rw [sum_ones, rng_len]; omega
  · have e : joinL (tx "") ((rng 0 (1 + c % m).toNat).map fun k => ([97 + ((c / m / 4 + k * st) % 26).toNat] : Tx)) = lawSigns c m := by
      show joinL [] _ = _
      rw [joinOnes]
      unfold lawSigns
      rw [est]
    rw [e]
    exact hq
theorem ok_law_row (T : Txt K mg) : Has P w K mg base 1 "_law_row" ["_law_cell_here", "_law_wide", "_law_signs_here"] rowS := by
  refine Has.of T.f_law_row sc_law_row (fun A Q R ⟨c, m, sg, e, _⟩ => by rw [e]; rfl) fun f cdv A outer s0 H E hr Γ Q R ⟨c, wd, sg, e, hw, hs0, hs1, hq⟩ => ?_
  subst e
  refine st_set 3 (ev_bin (o_mod (by decide)) (ev_var 0) ev_int) ?_ sc_law_row.nd
  refine st_set 4 (ev_str "") ?_ sc_law_row.nd
  refine st_for (xs := rng 0 ((wd : Int)).toNat) (fun k Γ => Le Γ [vl c, vl (wd : Int), vl sg, vl (rowSt c sg k).1, vl (rowSt c sg k).2, .no]) (src_range T.b_range (ev_var 1) (by omega) (by omega)) (tg_name 5) Le.refl
    (fun k x Γ' hk hP => ?_) (fun Γ' hP => ?_) (pgn 5 sc_law_row.nd)
  · obtain ⟨hlt, rfl⟩ := rng_get0 hk
    refine st_le (Le.set hP 5 _) ?_
    refine st_set 3 (ev_bin (o_mod (by decide)) (ev_bin o_add (ev_bin o_add (ev_bin (o_mul mulR) (ev_var 3) ev_int) (ev_bin (o_mul (x := (k : Int)) (y := (k : Int)) (.inl (by omega))) (ev_var 5) (ev_var 5))) ev_int) ev_int) ?_ sc_law_row.nd
    generalize en : ((rowSt c sg k).1 * 48271 + (k : Int) * (k : Int) + 7) % 2147483647 = n
    have h1 := Int.emod_nonneg (n / 5) (by omega : (sg.length : Int) ≠ 0)
    have h2 := Int.emod_lt_of_pos (n / 5) (by omega : (0 : Int) < sg.length)
    have hix : atI sg (n / 5 % sg.length) = some (sg.getD (n / 5 % sg.length).toNat 0) := by
      have h4 : (n / 5 % sg.length).toNat < sg.length := by omega
      have := atI_nat (List.getElem?_eq_getElem h4)
      rw [show (((n / 5 % sg.length).toNat : Nat) : Int) = n / 5 % sg.length by omega] at this
      rw [this, List.getD_eq_getElem?_getD, List.getElem?_eq_getElem h4]; rfl
    refine st_set 4 (ev_bin (o_addS ?_) (ev_var 4) (ev_ixS (ev_var 2) (ev_bin (o_mod (by omega)) (ev_bin (o_div divK) (ev_var 3) ev_int) (ev_lenS T.b_len (ev_var 2) (sl_small hs1))) hix (sl_small hs1))) (st_nil ?_) sc_law_row.nd
    · rw [rowSt_len]; exact sl_small (by show k + 1 ≤ _; omega)
    · show Le _ [vl c, vl (wd : Int), vl sg, vl (((rowSt c sg k).1 * 48271 + (k : Int) * (k : Int) + 7) % 2147483647), vl ((rowSt c sg k).2 ++ [sg.getD (((rowSt c sg k).1 * 48271 + (k : Int) * (k : Int) + 7) % 2147483647 / 5 % sg.length).toNat 0]), .no]
      rw [en]
      exact le_cons (le_cons (le_cons (le_cons (le_cons (le_no le_nil)))))
  · refine st_le hP (st_retV (ev_var 4) ?_)
    rw [rng_len]
    exact hq
end

section
variable {P : Program} {w : World} {K : PySem.W.Frag} {mg : Str → Option Value} {base : Heap}
theorem ok_law_picture (T : Txt K mg) : Has P w K mg base 2 "_law_picture" ["_law_script", "_law_at", "_law_rows", "_law_wide", "_law_signs_here"] pictureS := by
  refine Has.of T.f_law_picture sc_law_picture (fun A Q R ⟨s, a, r, wd, sg, e, _⟩ => by rw [e]; rfl) fun f cdv A outer s0 H E hr Γ Q R ⟨s, a, r, wd, sg, e, hl, ha, hr1, hw, hs0, hs1, hq⟩ => ?_
  subst e
  refine st_retE (en_lc (α := Int) (β := Tx) (own := [("_law_k", 5)]) (xs := rng 0 ((r : Int)).toNat) (f := fun k => lawRow (lawCell s.l (a + k)) wd sg) (src_range T.b_range (ev_var 2) (by omega) (by omega)) (tg_name 5) (fun _ _ _ _ _ => pgn 5 sc_law_picture.nd)
    (fun x hx _ _ _ _ _ => ev_call (ok_law_row T) (hr.mono (by decide)) (ea_cons (ev_call (ok_law_cell T) (hr.mono (by decide)) (ea_cons (ev_var 0) (ea_cons (ev_bin o_add (ev_var 1) (ev_var 5)) ea_nil)) fun P R h => ⟨_, _, rfl, hl, ?_, h⟩) (ea_cons (ev_var 3) (ea_cons (ev_var 4) ea_nil))) fun P R h => ⟨_, _, _, rfl, hw, hs0, hs1, h⟩) sc_law_picture.nd (ok := bk_law_picture (by decide +kernel)) (hz := ?_)) ?_
  · obtain ⟨k, _, rfl⟩ := rng_mem hx
    omega
  · rw [rng_len]; exact sl_small (by omega)
  · exact hq
end

def wholeS : Tw.Spec := fun A P _ => ∃ (n : Int), A = [vl n] ∧ P (rv true)
section
variable {P : Program} {w : World} {K : PySem.W.Frag} {mg : Str → Option Value} {base : Heap}
theorem ok_law_whole (T : Txt K mg) : Has P w K mg base 1 "_law_whole" ["_law_found"] wholeS := by
  refine Has.of T.f_law_whole sc_law_whole (fun A Q R ⟨n, e, _⟩ => by rw [e]; rfl) fun f cdv A outer s0 H E hr Γ Q R ⟨n, e, hq⟩ => ?_
  subst e
  exact st_retV (ev_and2 (ev_isi (α := Int) "int" true T.b_isinstance T.b_int (ev_var 0)) fun _ => ev_not (ev_isi (α := Int) "bool" false T.b_isinstance T.b_bool (ev_var 0))) hq
end

def textsS : Tw.Spec := fun A P _ => ∃ (p q : Pic), A = [vl p, vl q] ∧ p.length ≤ 6 ∧ PicOk p ∧ PicOk q ∧ P (rv (decide (p = q)))
theorem all_id {A : Type} (xs : List A) : (xs.map fun _ => true).all id = true := by simp
section
variable {P : Program} {w : World} {K : PySem.W.Frag} {mg : Str → Option Value} {base : Heap}
theorem ok_law_texts (T : Txt K mg) : Has P w K mg base 1 "_law_texts" ["_law_found", "_law_due"] textsS := by
  refine Has.of T.f_law_texts sc_law_texts (fun A Q R ⟨p, q, e, _⟩ => by rw [e]; rfl) fun f cdv A outer s0 H E hr Γ Q R ⟨p, q, e, hl, hp, hq', hq⟩ => ?_
  subst e
  refine st_if (et_or (et_not (et_val (ev_isi (α := Pic) "list" true T.b_isinstance T.b_list (ev_var 0)))) fun _ => et_cmp (o_neD (α := Pic) hr hp hq') (ev_var 0) (ev_var 1)) (fun h => ?_) (fun h => ?_)
  · have : decide (p = q) = false := by simpa using h
    rw [this] at hq
    exact st_retV ev_bl hq
  · have : decide (p = q) = true := by simpa using h
    rw [this] at hq
    refine st_nil (st_retV (ev_eq (ev_all T.b_all (ev_of_en (en_lc (α := Tx) (β := Bool) (own := [("_law_row_here", 2)]) (f := fun _ => true) (src_list (ev_var 0)) (tg_name 2) (fun _ _ _ _ _ => pgn 2 sc_law_texts.nd)
      (fun x hx _ _ _ _ _ => ev_isi (α := Tx) "str" true T.b_isinstance T.b_str (ev_var 2)) sc_law_texts.nd (ok := bk_law_texts (by decide +kernel)) (hz := sl6 hl)))) (all_id p)) hq)
end

local macro_rules | `(tactic| walk_at "le") => `(tactic| repeat (first | exact le_nil | refine le_cons ?_ | refine le_no ?_))
/-! ### the first fault of rows -/
def signBad (signs : Tx) : Nat → Tx → Option Nat
  | _, [] => none
  | j, c :: cs => if c ∈ signs then signBad signs (j + 1) cs else some j
def rowBad (n0 : Nat) (row : Tx) : Bool := decide (row.length < 1) || (decide (6 < row.length) || !decide (row.length = n0))
def whyRows (n0 : Nat) (signs : Tx) : Nat → List Tx → Option Why
  | _, [] => none
  | k, row :: rest => if rowBad n0 row then some ⟨tx "row", [(k : Int)]⟩ else match signBad signs 0 row with
    | some j => some ⟨tx "sign", [(k : Int), (j : Int)]⟩
    | none => whyRows n0 signs (k + 1) rest
def whyOf (rows : List Tx) (signs : Tx) : Option Why := if rows.length < 1 ∨ 6 < rows.length then some ⟨tx "rows", [(rows.length : Int)]⟩ else whyRows (rows.headD []).length signs 0 rows
theorem drop_cons {A : Type} {xs : List A} {k : Nat} {x : A} (h : xs[k]? = some x) : xs.drop k = x :: xs.drop (k + 1) := by
  obtain ⟨hl, e⟩ := List.getElem?_eq_some_iff.mp h
  rw [← e]
  exact List.drop_eq_getElem_cons hl
def NoPic (w : Why) : Exn := ⟨"NoPicture", "why", vl w⟩
def RowsOk (b : Nat) (rows : List Tx) : Prop := rows.length ≤ 100 ∧ ∀ x ∈ rows, x.length ≤ b ∧ TxOk x
def checkedS : Tw.Spec := fun A P R => ∃ (rows : List Tx) (signs : Tx), A = [vl rows, vl signs] ∧ RowsOk 100 rows ∧ (∀ w, whyOf rows signs = some w → R (NoPic w)) ∧ (whyOf rows signs = none → P (rn rows))
def whyS : Tw.Spec := fun A P _ => ∃ (rows : List Tx) (signs : Tx), A = [vl rows, vl signs] ∧ RowsOk 100 rows ∧ P (rv (whyOf rows signs))
def whyOfS : Tw.Spec := fun A P _ => ∃ (w : Why), A = [vl (ErrW.mk "NoPicture" "why" w)] ∧ w.ns.length ≤ 100 ∧ P (rv w)
theorem head_at {rows : List Tx} (h : ¬ (rows.length < 1 ∨ 6 < rows.length)) : atI rows 0 = some (rows.headD []) := by
  cases rows with
  | nil => exact absurd (.inl (by decide)) h
  | cons x q => exact atI_nat (j := 0) rfl
theorem map_at {row : Tx} {j : Nat} {x : Tx} (h : (row.map fun c => ([c] : Tx))[j]? = some x) : ∃ c, row[j]? = some c ∧ x = [c] := by
  rw [List.getElem?_map] at h
  cases q : row[j]? with
  | none => rw [q] at h; cases h
  | some c => rw [q] at h; exact ⟨c, rfl, (Option.some.inj h).symm⟩
section
variable {P : Program} {w : World} {K : PySem.W.Frag} {mg : Str → Option Value} {base : Heap}
theorem ok_checked (T : Txt K mg) : Has P w K mg base 3 "checked" ["rows", "signs"] checkedS := by
  refine Has.ofX T.f_checked sc_checked (fun A Q R ⟨rows, signs, e, _⟩ => by rw [e]; rfl) fun f cdv A outer s0 H E hr Γ Q R ⟨rows, signs, e, ⟨hl, hx⟩, hR, hP⟩ => ?_
  subst e
  refine st_if (et_or (et_cmp o_lt (ev_len T.b_len (ev_var 0)) ev_int) fun _ => et_cmp o_gt (ev_len T.b_len (ev_var 0)) (ev_gintE T.c_MOST)) (fun h => ?_) (fun h => st_nil ?_)
  · refine st_raise1 T.x_NoPicture (init_NoPicture T) (hr.mono (by decide)) (ev_why (ev_str "rows") (es_cons (ev_len T.b_len (ev_var 0)) es_nil)) (hR _ ?_)
    unfold whyOf
    rw [if_pos (by simp only [Bool.or_eq_true, Bool.or_eq_false_iff, decide_eq_true_eq, decide_eq_false_iff_not, Bool.not_eq_true', Bool.not_eq_false'] at h; omega)]
  have hn : ¬ (rows.length < 1 ∨ 6 < rows.length) := by simp only [Bool.or_eq_true, Bool.or_eq_false_iff, decide_eq_true_eq, decide_eq_false_iff_not, Bool.not_eq_true', Bool.not_eq_false'] at h; omega
  have hw : whyOf rows signs = whyRows (rows.headD []).length signs 0 (rows.drop 0) := by
    unfold whyOf
    rw [if_neg hn, List.drop_zero]
  have h0 := head_at hn
  have hl0 : (rows.headD []).length ≤ sizeLine := by
    cases rows with
    | nil => exact absurd (.inl (by decide)) hn
    | cons x q => exact sl_small (by have := (hx x (List.mem_cons_self ..)).1; show x.length ≤ 1000; omega)
  refine st_for (xs := enumL rows) (fun k Γ => Le Γ [vl rows, vl signs, .no, .no, .no, .no] ∧ whyOf rows signs = whyRows (rows.headD []).length signs k (rows.drop k)) (src_enum T.b_enumerate (ev_var 0)) (tg_pair 2 3 (by decide)) ⟨by walk_at "le", hw⟩
    (fun k x Γ1 hk hP1 => ?_) (fun Γ1 hP1 => ?_) (pg2 2 3 (pgn 2 sc_checked.nd) (pgn 3 sc_checked.nd))
  rotate_left
  · obtain ⟨hle, hz⟩ := hP1
    rw [enumL_len, List.drop_length] at hz
    exact st_le hle (st_retE (en_list T.b_list (ev_var 0)) (hP hz))
  obtain ⟨n, row⟩ := x
  obtain ⟨e1, hrow⟩ := enumL_get hk
  have e1 : n = (k : Int) := e1
  have hrow : rows[k]? = some row := hrow
  subst e1
  obtain ⟨hle, hz⟩ := hP1
  have hrx := hx row (List.mem_of_getElem? hrow)
  rw [drop_cons hrow] at hz
  have hrl : row.length ≤ sizeLine := sl_small (by omega)
  refine st_le ((Le.set hle 2 _).set 3 _) ?_
  refine st_if (et_or3 (et_cmp o_lt (ev_lenS T.b_len (ev_var 3) hrl) ev_int) (fun _ => et_cmp o_gt (ev_lenS T.b_len (ev_var 3) hrl) (ev_gintE T.c_MOST)) fun _ _ => et_cmp o_ne (ev_lenS T.b_len (ev_var 3) hrl) (ev_lenS T.b_len (ev_ixL (ev_var 0) ev_int h0) hl0)) (fun h => ?_) (fun h => st_nil ?_)
  · refine st_raise1 T.x_NoPicture (init_NoPicture T) (hr.mono (by decide)) (ev_why (ev_str "row") (es_cons (ev_var 2) es_nil)) (hR _ ?_)
    rw [hz, whyRows, if_pos]
    unfold rowBad
    simp only [Bool.or_eq_true, Bool.or_eq_false_iff, decide_eq_true_eq, decide_eq_false_iff_not, Bool.not_eq_true', Bool.not_eq_false'] at h ⊢
    omega
  have hbad : rowBad (rows.headD []).length row = false := by
    unfold rowBad
    simp only [Bool.or_eq_true, Bool.or_eq_false_iff, decide_eq_true_eq, decide_eq_false_iff_not, Bool.not_eq_true', Bool.not_eq_false'] at h ⊢
    omega
  rw [whyRows, hbad, if_neg (by decide)] at hz
  refine st_for (xs := enumL (row.map fun c => ([c] : Tx))) (fun j Γ => Le Γ [vl rows, vl signs, vl (k : Int), vl row, .no, .no] ∧ signBad signs 0 row = signBad signs j (row.drop j)) (src_enumS T.b_enumerate (ev_var 3)) (tg_pair 4 5 (by decide)) ⟨by walk_at "le", rfl⟩
    (fun j x Γ2 hk2 hP2 => ?_) (fun Γ2 hP2 => ?_) (pg2 4 5 (pgn 4 sc_checked.nd) (pgn 5 sc_checked.nd))
  · obtain ⟨m, y⟩ := x
    obtain ⟨e2, hy⟩ := enumL_get hk2
    have e2 : m = (j : Int) := e2
    subst e2
    obtain ⟨c, hc, hyc⟩ := map_at hy
    have hyc : y = [c] := hyc
    subst hyc
    obtain ⟨hle2, hz2⟩ := hP2
    rw [drop_cons hc, signBad] at hz2
    refine st_le ((Le.set hle2 4 _).set 5 _) ?_
    refine st_if (et_cmp o_notInS (ev_var 5) (ev_var 1)) (fun h => ?_) (fun h => st_nil (st_nil ⟨?_, ?_⟩))
    · refine st_raise1 T.x_NoPicture (init_NoPicture T) (hr.mono (by decide)) (ev_why (ev_str "sign") (es_cons (ev_var 2) (es_cons (ev_var 4) es_nil))) (hR _ ?_)
      rw [if_neg (by simpa using h)] at hz2
      rw [hz, hz2]
    · show Le _ _
      walk_at "le"
    · rw [if_pos (by simpa using h)] at hz2
      exact hz2
  · obtain ⟨hle2, hz2⟩ := hP2
    rw [enumL_len, List.length_map, List.drop_length] at hz2
    refine st_nil ⟨hle2.trans (by walk_at "le"), ?_⟩
    rw [hz, hz2]
    rfl
theorem ok_law_why (T : Txt K mg) : Has P w K mg base 1 "_law_why" ["_law_rows", "_law_signs_here"] whyS := by
  refine Has.of T.f_law_why sc_law_why (fun A Q R ⟨rows, signs, e, _⟩ => by rw [e]; rfl) fun f cdv A outer s0 H E hr Γ Q R ⟨rows, signs, e, ⟨hl, hx⟩, hP⟩ => ?_
  subst e
  refine st_if (et_or (et_cmp o_lt (ev_len T.b_len (ev_var 0)) ev_int) fun _ => et_cmp o_gt (ev_len T.b_len (ev_var 0)) ev_int) (fun h => ?_) (fun h => st_nil ?_)
  · have : whyOf rows signs = some ⟨tx "rows", [(rows.length : Int)]⟩ := by
      unfold whyOf
      rw [if_pos (by simp only [Bool.or_eq_true, Bool.or_eq_false_iff, decide_eq_true_eq, decide_eq_false_iff_not, Bool.not_eq_true', Bool.not_eq_false'] at h; omega)]
    rw [this] at hP
    exact st_retV (ev_some (ev_why (ev_str "rows") (es_cons (ev_len T.b_len (ev_var 0)) es_nil))) hP
  have hn : ¬ (rows.length < 1 ∨ 6 < rows.length) := by simp only [Bool.or_eq_true, Bool.or_eq_false_iff, decide_eq_true_eq, decide_eq_false_iff_not, Bool.not_eq_true', Bool.not_eq_false'] at h; omega
  have hw : whyOf rows signs = whyRows (rows.headD []).length signs 0 (rows.drop 0) := by
    unfold whyOf
    rw [if_neg hn, List.drop_zero]
  have h0 := head_at hn
  have hl0 : (rows.headD []).length ≤ sizeLine := by
    cases rows with
    | nil => exact absurd (.inl (by decide)) hn
    | cons x q => exact sl_small (by have := (hx x (List.mem_cons_self ..)).1; show x.length ≤ 1000; omega)
  refine st_for (xs := enumL rows) (fun k Γ => Le Γ [vl rows, vl signs, .no, .no, .no, .no] ∧ whyOf rows signs = whyRows (rows.headD []).length signs k (rows.drop k)) (src_enum T.b_enumerate (ev_var 0)) (tg_pair 2 3 (by decide)) ⟨by walk_at "le", hw⟩
    (fun k x Γ1 hk hP1 => ?_) (fun Γ1 hP1 => ?_) (pg2 2 3 (pgn 2 sc_law_why.nd) (pgn 3 sc_law_why.nd))
  rotate_left
  · obtain ⟨hle, hz⟩ := hP1
    rw [enumL_len, List.drop_length] at hz
    rw [show whyOf rows signs = none from hz] at hP
    exact st_le hle (st_retV (ev_nonO (α := Why)) hP)
  obtain ⟨n, row⟩ := x
  obtain ⟨e1, hrow⟩ := enumL_get hk
  have e1 : n = (k : Int) := e1
  have hrow : rows[k]? = some row := hrow
  subst e1
  obtain ⟨hle, hz⟩ := hP1
  have hrx := hx row (List.mem_of_getElem? hrow)
  rw [drop_cons hrow] at hz
  have hrl : row.length ≤ sizeLine := sl_small (by omega)
  refine st_le ((Le.set hle 2 _).set 3 _) ?_
  refine st_if (et_or3 (et_cmp o_lt (ev_lenS T.b_len (ev_var 3) hrl) ev_int) (fun _ => et_cmp o_gt (ev_lenS T.b_len (ev_var 3) hrl) ev_int) fun _ _ => et_cmp o_ne (ev_lenS T.b_len (ev_var 3) hrl) (ev_lenS T.b_len (ev_ixL (ev_var 0) ev_int h0) hl0)) (fun h => ?_) (fun h => st_nil ?_)
  · rw [whyRows, if_pos (by unfold rowBad; simp only [Bool.or_eq_true, Bool.or_eq_false_iff, decide_eq_true_eq, decide_eq_false_iff_not, Bool.not_eq_true', Bool.not_eq_false'] at h ⊢; omega)] at hz
    rw [hz] at hP
    exact st_retV (ev_some (ev_why (ev_str "row") (es_cons (ev_var 2) es_nil))) hP
  have hbad : rowBad (rows.headD []).length row = false := by
    unfold rowBad
    simp only [Bool.or_eq_true, Bool.or_eq_false_iff, decide_eq_true_eq, decide_eq_false_iff_not, Bool.not_eq_true', Bool.not_eq_false'] at h ⊢
    omega
  rw [whyRows, hbad, if_neg (by decide)] at hz
  refine st_for (xs := enumL (row.map fun c => ([c] : Tx))) (fun j Γ => Le Γ [vl rows, vl signs, vl (k : Int), vl row, .no, .no] ∧ signBad signs 0 row = signBad signs j (row.drop j)) (src_enumS T.b_enumerate (ev_var 3)) (tg_pair 4 5 (by decide)) ⟨by walk_at "le", rfl⟩
    (fun j x Γ2 hk2 hP2 => ?_) (fun Γ2 hP2 => ?_) (pg2 4 5 (pgn 4 sc_law_why.nd) (pgn 5 sc_law_why.nd))
  · obtain ⟨m, y⟩ := x
    obtain ⟨e2, hy⟩ := enumL_get hk2
    have e2 : m = (j : Int) := e2
    subst e2
    obtain ⟨c, hc, hyc⟩ := map_at hy
    have hyc : y = [c] := hyc
    subst hyc
    obtain ⟨hle2, hz2⟩ := hP2
    rw [drop_cons hc, signBad] at hz2
    refine st_le ((Le.set hle2 4 _).set 5 _) ?_
    refine st_if (et_cmp o_notInS (ev_var 5) (ev_var 1)) (fun h => ?_) (fun h => st_nil (st_nil ⟨?_, ?_⟩))
    · rw [if_neg (by simpa using h)] at hz2
      rw [hz, hz2] at hP
      exact st_retV (ev_some (ev_why (ev_str "sign") (es_cons (ev_var 2) (es_cons (ev_var 4) es_nil)))) hP
    · show Le _ _
      walk_at "le"
    · rw [if_pos (by simpa using h)] at hz2
      exact hz2
  · obtain ⟨hle2, hz2⟩ := hP2
    rw [enumL_len, List.length_map, List.drop_length] at hz2
    refine st_nil ⟨hle2.trans (by walk_at "le"), ?_⟩
    rw [hz, hz2]
    rfl
theorem ok_law_why_of (T : Txt K mg) : Has P w K mg base 2 "_law_why_of" ["_law_error"] whyOfS := by
  refine Has.of T.f_law_why_of sc_law_why_of (fun A Q R ⟨y, e, _⟩ => by rw [e]; rfl) fun f cdv A outer s0 H E hr Γ Q R ⟨y, e, hl, hP⟩ => ?_
  subst e
  have ew : ∀ {Γ : List Slot} {p1 p2}, Γ[0]? = some (vl (ErrW.mk "NoPicture" "why" y)) → EV (cxOf (L2.CX P w) P w K mg base N_law_why_of "_law_why_of" (defScope s_law_why_of) f cdv A outer s0 H E).nox Γ (.Attribute (.Name "_law_error" p1) "why" p2) y := fun {Γ p1 p2} hg =>
    ev_errW (α := Why) (x := ErrW.mk "NoPicture" "why" y) T.x_NoPicture (Dx.fld T.i_NoPicture) (ev_var 0 (hg := hg))
  refine st_if (k := false) (et_eq (et_or (et_not (et_val (ev_isiE (α := ErrW Why) T.b_isinstance T.x_NoPicture T.x_NoPicture T.s_NoPicture_NoPicture (ev_var 0)))) fun _ => et_not (et_val (ev_isiEB (α := ErrW Why) "ValueError" T.b_isinstance T.b_ValueError T.x_NoPicture T.t_NoPicture_ValueError (ev_var 0)))) rfl) (fun h => nomatch h) (fun _ => st_nil ?_)
  refine st_if (k := false) (et_val (ev_isiEF (α := ErrW Why) T.b_isinstance T.x_NoPicture (ec_cons T.x_NoFit (ec_cons T.x_NoGrammar (ec_cons T.x_NoName (ec_cons T.x_NoNumber (ec_cons T.x_NoRow (ec_cons T.x_NoRule (ec_cons T.x_NoText (ec_cons T.x_NoTree (ec_cons T.x_NoWord (ec_cons T.x_TooMany ec_nil)))))))))) ?_ (ev_var 0))) (fun h => nomatch h) (fun _ => st_nil ?_)
  · intro c hc
    simp at hc
    rcases hc with rfl | rfl | rfl | rfl | rfl | rfl | rfl | rfl | rfl | rfl
    · exact T.s_NoPicture_NoFit
    · exact T.s_NoPicture_NoGrammar
    · exact T.s_NoPicture_NoName
    · exact T.s_NoPicture_NoNumber
    · exact T.s_NoPicture_NoRow
    · exact T.s_NoPicture_NoRule
    · exact T.s_NoPicture_NoText
    · exact T.s_NoPicture_NoTree
    · exact T.s_NoPicture_NoWord
    · exact T.s_NoPicture_TooMany
  refine st_if (k := false) (et_eq (et_or (et_not (et_val (ev_isi (α := Why) "tuple" true T.b_isinstance T.b_tuple (ew rfl)))) fun _ => et_not (et_val (ev_eq (ev_all T.b_all (ev_of_en (en_lc (α := Int) (β := Bool) (own := [("_law_number", 1)]) (f := fun _ => true) (src_tup (ev_whyRest (ew rfl))) (tg_name 1) (fun _ _ _ _ _ => pgn 1 sc_law_why_of.nd)
    (fun x hx _ _ _ _ _ => ev_call (x := true) (ok_law_whole T) (hr.mono (by decide)) (ea_cons (ev_var 1) ea_nil) fun P R h => ⟨_, rfl, h⟩) sc_law_why_of.nd (ok := bk_law_why_of (by decide +kernel)) (hz := sl_small (by show y.ns.length ≤ 1000; omega))))) (show _ = true by simp)))) rfl) (fun h => nomatch h) (fun _ => st_nil ?_)
  exact st_retV (ew rfl) hP
end

theorem cut_to {A : Type} {xs : List A} {n : Nat} : cutL xs none (some (n : Int)) = xs.take n := by
  unfold cutL
  rw [HT.sIx_nat]
  show (xs.drop 0).take _ = _
  rw [List.drop_zero]
  show xs.take (min n xs.length - 0) = _
  rw [Nat.sub_zero]
  by_cases h : n ≤ xs.length
  · rw [Nat.min_eq_left h]
  · rw [Nat.min_eq_right (by omega), List.take_of_length_le (Nat.le_refl _), List.take_of_length_le (by omega)]
theorem cut_from {A : Type} {xs : List A} {n : Nat} : cutL xs (some (n : Int)) none = xs.drop n := by
  unfold cutL
  rw [HT.sIx_nat]
  show (xs.drop (min n xs.length)).take (xs.length - min n xs.length) = _
  by_cases h : n ≤ xs.length
  · rw [Nat.min_eq_left h, List.take_of_length_le (by rw [List.length_drop]; exact Nat.le_refl _)]
  · rw [Nat.min_eq_right (by omega), List.drop_of_length_le (Nat.le_refl _), List.drop_of_length_le (by omega), List.take_nil]
theorem cutL_len {A : Type} {xs : List A} {a b : Option Int} : (cutL xs a b).length ≤ xs.length := by
  unfold cutL
  rw [List.length_take, List.length_drop]
  omega
theorem cutL_mem {A : Type} {xs : List A} {a b : Option Int} {x : A} (h : x ∈ cutL xs a b) : x ∈ xs := List.mem_of_mem_drop (List.mem_of_mem_take h)

theorem txok_app {x y : Tx} (h1 : TxOk x) (h2 : TxOk y) : TxOk (x ++ y) := fun c hc => by
  rcases List.mem_append.mp hc with z | z
  · exact h1 c z
  · exact h2 c z
theorem txok_one {c : Nat} (h : c < 128) : TxOk [c] := fun d hd => by rw [List.mem_singleton.mp hd]; omega
theorem txok_cut {x : Tx} {a b : Option Int} (h : TxOk x) : TxOk (cutL x a b) := fun c hc => h c (cutL_mem hc)
theorem whyRows_w {n0 : Nat} {signs : Tx} : ∀ {rows : List Tx} {k : Nat} {y : Why}, whyRows n0 signs k rows = some y → TxOk y.w ∧ y.ns.length ≤ 100
  | [], _, _, h => by cases h
  | row :: rest, k, y, h => by
    rw [whyRows] at h
    split at h
    · cases h
      exact ⟨(by decide +kernel : ∀ c ∈ tx "row", c < 1114112), by simp⟩
    · split at h
      · cases h
        exact ⟨(by decide +kernel : ∀ c ∈ tx "sign", c < 1114112), by simp⟩
      · exact whyRows_w h
theorem whyOf_w {rows : List Tx} {signs : Tx} {y : Why} (h : whyOf rows signs = some y) : TxOk y.w ∧ y.ns.length ≤ 100 := by
  unfold whyOf at h
  split at h
  · cases h
    exact ⟨(by decide +kernel : ∀ c ∈ tx "rows", c < 1114112), by simp⟩
  · exact whyRows_w h
theorem whyOf_none {rows : List Tx} {signs : Tx} (h : whyOf rows signs = none) : rows.length ≤ 6 := by
  unfold whyOf at h
  split at h
  · cases h
  · omega

def anyS : Tw.Spec := fun A P _ => ∃ (n : Int), A = [vl n] ∧ ∀ c, c < 128 → P (rv ([c] : Tx))
abbrev someTx : Tx := tx " !#$&'()*+,-./0123456789:;<=>?@ABCDEFGHIJKLMNOPQRSTUVWXYZ[]^_abcdefghijklmnopqrstuvwxyz{|}~"
theorem some_len : someTx.length = 91 := by decide +kernel
theorem some_lt : ∀ c ∈ someTx, c < 128 := by decide +kernel
section
variable {P : Program} {w : World} {K : PySem.W.Frag} {mg : Str → Option Value} {base : Heap}
theorem ok_law_any_sign (T : Txt K mg) : Has P w K mg base 1 "_law_any_sign" ["_law_number"] anyS := by
  refine Has.of T.f_law_any_sign sc_law_any_sign (fun A Q R ⟨n, e, _⟩ => by rw [e]; rfl) fun f cdv A outer s0 H E hr Γ Q R ⟨n, e, hP⟩ => ?_
  subst e
  refine st_set 1 (ev_str _) ?_ sc_law_any_sign.nd
  have h1 := Int.emod_nonneg n (by decide : (91 : Int) ≠ 0)
  have h2 := Int.emod_lt_of_pos n (by decide : (0 : Int) < 91)
  obtain ⟨k, ek⟩ : ∃ k : Nat, n % 91 = (k : Int) := ⟨(n % 91).toNat, by omega⟩
  have hk : k < someTx.length := by rw [some_len]; omega
  have hg : someTx[k]? = some someTx[k] := List.getElem?_eq_getElem hk
  exact st_retV (ev_ixS (z := someTx[k]) (ev_var 1) (ev_eq (ev_bin (o_mod (by decide)) (ev_var 0) (ev_eq (y := (91 : Int)) (ev_lenS T.b_len (ev_var 1) (sl_small (by rw [some_len]; decide))) (by rw [some_len]; rfl))) ek) (atI_nat hg) (sl_small (by rw [some_len]; decide))) (hP _ (some_lt _ (List.getElem_mem hk)))
end

local macro_rules | `(tactic| walk_at "le") => `(tactic| repeat (first | exact le_nil | refine le_cons ?_ | refine le_no ?_))
def slash : Nat := 47
def rowsOf (x : Tx) : List Tx := splitC 47 [] x
theorem rowsOf_ok {x : Tx} (h : TxOk x) (hl : x.length ≤ 99) : RowsOk 100 (rowsOf x) := by
  obtain ⟨h1, h2⟩ := splitC_len (c := 47) x []
  exact ⟨by show (splitC 47 [] x).length ≤ 100; omega, fun y hy => ⟨by have := h2 y hy; simp at this; omega, splitC_ok x [] (fun _ h => nomatch h) h y hy⟩⟩
theorem joinL_slash : ∀ {p : List Tx}, p ≠ [] → p.flatMap (fun r => r ++ [47]) = TL.joinL [47] p ++ [47]
  | [], h => absurd rfl h
  | [x], _ => by simp [TL.joinL]
  | x :: y :: r, _ => by
    rw [List.flatMap_cons, joinL_slash (p := y :: r) (by simp)]
    simp [TL.joinL]
theorem cut_last {x : Tx} {c : Nat} : cutL (x ++ [c]) none (some (-1)) = x := by
  unfold cutL
  have h1 : HT.sIx (x ++ [c]).length 0 none = 0 := rfl
  have h2 : HT.sIx (x ++ [c]).length (x ++ [c]).length (some (-1)) = x.length := by
    rw [List.length_append]
    show HT.sIx (x.length + 1) _ (some (-1)) = _
    unfold HT.sIx
    simp
    omega
  rw [h1, h2, List.drop_zero, Nat.sub_zero, List.take_left]
theorem flat_len {A B : Type} (xs : List A) (f : A → List B) (n : Nat) (h : ∀ x ∈ xs, (f x).length ≤ n) : (xs.flatMap f).length ≤ xs.length * n := by
  induction xs with
  | nil => simp
  | cons x xs ih =>
    rw [List.flatMap_cons, List.length_append, List.length_cons, Nat.succ_mul]
    have h1 := h x (List.mem_cons_self ..)
    have h2 := ih fun y hy => h y (List.mem_cons_of_mem _ hy)
    omega
def shownS : Tw.Spec := fun A P _ => ∃ (p : Pic) (r c : Nat), A = [vl p] ∧ Pk p r c ∧ P (rv (TL.joinL [47] p))
def readS : Tw.Spec := fun A P R => ∃ (x signs : Tx), A = [vl x, vl signs] ∧ TxOk x ∧ x.length ≤ 99 ∧ (∀ y, whyOf (rowsOf x) signs = some y → R (NoPic y)) ∧ (whyOf (rowsOf x) signs = none → P (rn (rowsOf x)))
def splitS : Tw.Spec := fun A P _ => ∃ (x : Tx), A = [vl x] ∧ x.length ≤ 99 ∧ P (rn (rowsOf x))
def spoiltS : Tw.Spec := fun A P _ => ∃ (x : Tx) (c : Int), A = [vl x, vl c] ∧ TxOk x ∧ x.length ≤ 90 ∧ ∀ y, TxOk y → y.length ≤ x.length + 1 → P (rv y)
def lreadS : Tw.Spec := fun A P _ => ∃ (x signs : Tx), A = [vl x, vl signs] ∧ TxOk x ∧ x.length ≤ 99 ∧ P (rv true)
theorem sum_le {n : Nat} : ∀ {p : List Tx}, (∀ x ∈ p, x.length ≤ n) → (p.map (·.length)).sum ≤ p.length * n
  | [], _ => by simp
  | x :: p, h => by
    rw [List.map_cons, List.sum_cons, List.length_cons, Nat.succ_mul]
    have h1 := h x (List.mem_cons_self ..)
    have h2 := sum_le (p := p) fun y hy => h y (List.mem_cons_of_mem _ hy)
    omega
section
variable {P : Program} {w : World} {K : PySem.W.Frag} {mg : Str → Option Value} {base : Heap}
theorem ok_shown (T : Txt K mg) : Has P w K mg base 1 "shown" ["picture"] shownS := by
  refine Has.of T.f_shown sc_shown (fun A Q R ⟨p, r, c, e, _⟩ => by rw [e]; rfl) fun f cdv A outer s0 H E hr Γ Q R ⟨p, r, c, e, hp, hq⟩ => ?_
  subst e
  refine st_retV (ev_join (ev_str "/") (ev_var 0) ?_) hq
  have h1 := sum_le (n := 6) fun x hx => by rw [hp.row x hx]; exact hp.c6
  have h2 := hp.len
  have h3 := hp.r6
  show _ + _ * 1 ≤ _
  omega
theorem ok_read_picture (T : Txt K mg) : Has P w K mg base 4 "read_picture" ["text", "signs"] readS := by
  refine Has.ofX T.f_read_picture sc_read_picture (fun A Q R ⟨x, signs, e, _⟩ => by rw [e]; rfl) fun f cdv A outer s0 H E hr Γ Q R ⟨x, signs, e, hx, hl, hR, hP⟩ => ?_
  subst e
  cases hw : whyOf (rowsOf x) signs with
  | some y => exact st_retX (P := fun _ => False) (R := fun z => z = NoPic y) (exx_call (ok_checked T) (hr.mono (by decide)) (ea_cons (ev_of_en (en_split (c := 47) (ev_var 0) (ev_str "/") (by decide) (sl_small (by omega)))) (ea_cons (ev_var 1) ea_nil)) fun P' R' _ h => ⟨rowsOf x, signs, rfl, rowsOf_ok hx hl, fun z hz => by (rw [hw] at hz; cases hz; exact h _ rfl), fun z => by rw [hw] at z; cases z⟩) (fun _ z => z.elim) (fun z e => e ▸ hR y hw)
  | none => exact st_retX (P := fun z => z = rn (rowsOf x)) (R := fun _ => False) (exx_call (ok_checked T) (hr.mono (by decide)) (ea_cons (ev_of_en (en_split (c := 47) (ev_var 0) (ev_str "/") (by decide) (sl_small (by omega)))) (ea_cons (ev_var 1) ea_nil)) fun P' R' h _ => ⟨rowsOf x, signs, rfl, rowsOf_ok hx hl, fun z hz => by (rw [hw] at hz; cases hz), fun _ => h _ rfl⟩) (fun z e => e ▸ hP hw) (fun _ z => z.elim)
theorem ok_law_split (T : Txt K mg) : Has P w K mg base 1 "_law_split" ["_law_text"] splitS := by
  refine Has.of T.f_law_split sc_law_split (fun A Q R ⟨x, e, _⟩ => by rw [e]; rfl) fun f cdv A outer s0 H E hr Γ Q R ⟨x, e, hl, hq⟩ => ?_
  subst e
  refine st_setN 1 (en_lst (es_cons (ev_str "") es_nil)) (fun ad => ?_) sc_law_split.nd
  refine st_for (xs := x.map fun c => ([c] : Tx)) (fun k Γ => ∃ (done : List Tx) (acc : Tx), Le Γ [vl x, ls ad (done ++ [acc]), .no] ∧ rowsOf x = done ++ splitC 47 acc (x.drop k) ∧ done.length ≤ k ∧ acc.length ≤ k) (src_str (ev_var 0)) (tg_name 2) ⟨[], [], by walk_at "le", rfl, Nat.le_refl _, Nat.le_refl _⟩
    (fun k y Γ1 hk hP1 => ?_) (fun Γ1 hP1 => ?_) (pgn 2 sc_law_split.nd)
  · obtain ⟨c, hc, rfl⟩ := map_at hk
    obtain ⟨done, acc, hle, hz, hd, ha⟩ := hP1
    have hkl : k < x.length := (List.getElem?_eq_some_iff.mp hc).1
    rw [drop_cons hc, splitC] at hz
    refine st_le (Le.set hle 2 _) ?_
    refine st_if (et_cmp o_eqS (ev_var 2) (ev_str "/")) (fun h => ?_) (fun h => ?_)
    · have h47 : c = 47 := by
        have : ([c] : Tx) = tx "/" := of_decide_eq_true h
        have e : tx "/" = [47] := by decide +kernel
        rw [e] at this
        exact List.head_eq_of_cons_eq this
      rw [if_pos h47] at hz
      refine st_append 1 (ev_str "") (st_nil (st_nil ⟨done ++ [acc], [], ?_, ?_, ?_, Nat.zero_le _⟩)) (xs := done ++ [acc]) (i := repTx) (ad := ad) (lt_line (by rw [List.length_append]; simp; omega))
      · show Le _ _
        walk_at "le"
      · rw [hz, List.append_assoc]; rfl
      · rw [List.length_append]; simp; omega
    · have h47 : ¬ c = 47 := fun z => by
        subst z
        have : ¬ (([47] : Tx) = tx "/") := of_decide_eq_false h
        exact this (by decide +kernel)
      rw [if_neg h47] at hz
      have hlen : (done ++ [acc]).length = done.length + 1 := by simp
      have hix : ixN (done ++ [acc]).length (-1) = some done.length := by
        unfold ixN
        rw [hlen, if_neg (by decide), if_pos (by omega)]
        congr 1
        omega
      have hat : atI (done ++ [acc]) (-1) = some acc := by
        unfold atI
        rw [hix]
        show (done ++ [acc])[done.length]? = some acc
        simp
      refine st_setIx 1 (t := done.length) (ev_lend 1 (ev_bin (o_addS (x := acc) (y := [c]) (sl_small (by simp; omega))) (ev_ixL (xs := done ++ [acc]) (ev_var 1) (ev_neg ev_int) hat) (ev_var 2))) (ev_neg ev_int) ?_ (st_nil (st_nil ⟨done, acc ++ [c], ?_, hz, by omega, by simp; omega⟩))
      · exact hix
      · have e : (done ++ [acc]).set done.length (acc ++ [c]) = done ++ [acc ++ [c]] := by simp
        show Le _ [vl x, ls ad (done ++ [acc ++ [c]]), .no]
        rw [← e]
        walk_at "le"
  · obtain ⟨done, acc, hle, hz, hd, ha⟩ := hP1
    rw [List.length_map, List.drop_length, splitC] at hz
    rw [hz] at hq
    exact st_le hle (st_retL 1 hq)
theorem ok_law_spoilt (T : Txt K mg) : Has P w K mg base 2 "_law_spoilt" ["_law_text", "_law_cell_here"] spoiltS := by
  refine Has.of T.f_law_spoilt sc_law_spoilt (fun A Q R ⟨x, c, e, _⟩ => by rw [e]; rfl) fun f cdv A outer s0 H E hr Γ Q R ⟨x, c, e, hx, hl, hP⟩ => ?_
  subst e
  refine st_set 2 (ev_bin (o_div divK) (ev_var 1) ev_int) ?_ sc_law_spoilt.nd
  have a1 := Int.emod_nonneg (c / 4) (show (x.length : Int) + 1 ≠ 0 by omega)
  have a2 := Int.emod_lt_of_pos (c / 4) (show (0 : Int) < (x.length : Int) + 1 by omega)
  obtain ⟨n, en⟩ : ∃ n : Nat, c / 4 % ((x.length : Int) + 1) = (n : Int) := ⟨(c / 4 % ((x.length : Int) + 1)).toNat, by omega⟩
  have hz : x.length ≤ sizeLine := sl_small (by omega)
  refine st_set 3 (ev_eq (ev_bin (o_mod (by omega)) (ev_var 2) (ev_bin o_add (ev_lenS T.b_len (ev_var 0) hz) ev_int)) en) ?_ sc_law_spoilt.nd
  refine st_set 4 (ev_str "/") ?_ sc_law_spoilt.nd
  have e2 : (n : Int) + 1 = ((n + 1 : Nat) : Int) := by omega
  have go : ∀ d : Nat, d < 128 → Tw.ST (cxOf (L2.CX P w) P w K mg base N_law_spoilt "_law_spoilt" (defScope s_law_spoilt) f cdv A outer s0 H E).nox ((defBody s_law_spoilt).drop 4) [vl x, vl c, vl (c / 4), vl (n : Int), vl ([d] : Tx)] (fin Q) := fun d hd => by
    have eA : ∀ {Γ : List Slot} {p1 p2 p3 p4}, Γ[0]? = some (vl x) → Γ[3]? = some (vl (n : Int)) → EV (cxOf (L2.CX P w) P w K mg base N_law_spoilt "_law_spoilt" (defScope s_law_spoilt) f cdv A outer s0 H E).nox Γ (.Subscript (.Name "_law_text" p1) (.Slice none (some (.Name "_law_at" p2)) none p3) p4) (x.take n) := fun {Γ p1 p2 p3 p4} g1 g2 =>
      ev_eq (ev_sliceS (o1 := none) (o2 := some (n : Int)) (ev_var 0 (hg := g1)) trivial (ev_var 3 (hg := g2)) hz) cut_to
    have tOk : TxOk (x.take n) := fun z hz => hx z (List.mem_of_mem_take hz)
    have dOk : ∀ m, TxOk (x.drop m) := fun m z hz => hx z (List.mem_of_mem_drop hz)
    refine st_if (et_cmp o_eq (ev_bin (o_mod (by decide)) (ev_var 1) ev_int) ev_int) (fun _ => ?_) (fun _ => st_nil ?_)
    · refine st_retV (ev_bin (o_addS (x := x.take n ++ [d]) (y := x.drop n) ?_) (ev_bin (o_addS (x := x.take n) (y := [d]) ?_) (eA rfl rfl) (ev_var 4)) (ev_eq (ev_sliceS (o1 := some (n : Int)) (o2 := none) (ev_var 0) (ev_var 3) trivial hz) cut_from)) (hP _ (txok_app (txok_app tOk (txok_one hd)) (dOk n)) ?_)
      · simp only [List.length_append, List.length_take, List.length_drop, List.length_cons, List.length_nil]; exact sl_small (by omega)
      · simp only [List.length_take, List.length_cons, List.length_nil]; exact sl_small (by omega)
      · simp only [List.length_append, List.length_take, List.length_drop, List.length_cons, List.length_nil]; omega
    refine st_if (et_cmp o_eq (ev_bin (o_mod (by decide)) (ev_var 1) ev_int) ev_int) (fun _ => ?_) (fun _ => st_nil ?_)
    · refine st_retV (ev_bin (o_addS (x := x.take n) (y := x.drop (n + 1)) ?_) (eA rfl rfl) (ev_eq (ev_sliceS (o1 := some ((n + 1 : Nat) : Int)) (o2 := none) (ev_var 0) (ev_eq (ev_bin o_add (ev_var 3) ev_int) e2) trivial hz) cut_from)) (hP _ (txok_app tOk (dOk _)) ?_)
      · simp only [List.length_take, List.length_drop]; exact sl_small (by omega)
      · simp only [List.length_append, List.length_take, List.length_drop]; omega
    refine st_if (et_cmp o_eq (ev_bin (o_mod (by decide)) (ev_var 1) ev_int) ev_int) (fun _ => ?_) (fun _ => st_nil (st_retV (ev_var 0) (hP _ hx (by omega))))
    refine st_retV (ev_bin (o_addS (x := x.take n ++ [d]) (y := x.drop (n + 1)) ?_) (ev_bin (o_addS (x := x.take n) (y := [d]) ?_) (eA rfl rfl) (ev_var 4)) (ev_eq (ev_sliceS (o1 := some ((n + 1 : Nat) : Int)) (o2 := none) (ev_var 0) (ev_eq (ev_bin o_add (ev_var 3) ev_int) e2) trivial hz) cut_from)) (hP _ (txok_app (txok_app tOk (txok_one hd)) (dOk _)) ?_)
    · simp only [List.length_append, List.length_take, List.length_drop, List.length_cons, List.length_nil]; exact sl_small (by omega)
    · simp only [List.length_take, List.length_cons, List.length_nil]; exact sl_small (by omega)
    · simp only [List.length_append, List.length_take, List.length_drop, List.length_cons, List.length_nil]; omega
  refine st_if (et_cmp o_eq (ev_bin (o_mod (by decide)) (ev_bin (o_div divK) (ev_var 2) ev_int) ev_int) ev_int) (fun _ => ?_) (fun _ => st_nil (go 47 (by decide)))
  refine st_setEx 4 (α := Tx) (i := repTx) (G := fun y => ∃ d, d < 128 ∧ y = [d]) (ex_call (ok_law_any_sign T) (hr.mono (by decide)) (ea_cons (ev_bin (o_div divK) (ev_var 2) ev_int) ea_nil) fun P' R' h => ⟨_, rfl, fun d hd => h _ ⟨_, ⟨d, hd, rfl⟩, rfl⟩⟩) (fun y hy => st_nil ?_) sc_law_spoilt.nd
  obtain ⟨d, hd, rfl⟩ := hy
  exact go d hd
theorem ok_law_read (T : Txt K mg) : Has P w K mg base 5 "_law_read" ["_law_text", "_law_signs_here"] lreadS := by
  refine Has.of T.f_law_read sc_law_read (fun A Q R ⟨x, signs, e, _⟩ => by rw [e]; rfl) fun f cdv A outer s0 H E hr Γ Q R ⟨x, signs, e, hx, hl, hQ⟩ => ?_
  subst e
  have hro := rowsOf_ok hx hl
  refine st_set 2 (ev_of_en (en_call (ok_law_split T) (hr.mono (by decide)) (ea_cons (ev_var 0) ea_nil) fun P' R' h => ⟨x, rfl, hl, h⟩)) ?_ sc_law_read.nd
  refine st_set 3 (ev_call (x := whyOf (rowsOf x) signs) (ok_law_why T) (hr.mono (by decide)) (ea_cons (ev_var 2) (ea_cons (ev_var 1) ea_nil)) fun P' R' h => ⟨_, _, rfl, hro, h⟩) ?_ sc_law_read.nd
  refine st_set 4 ev_non ?_ sc_law_read.nd
  refine st_set 5 ev_non ?_ sc_law_read.nd
  have hpic : PicOk (rowsOf x) := fun y hy => (hro.2 y hy).2
  cases hw : whyOf (rowsOf x) signs with
  | some y =>
    obtain ⟨hy1, hy2⟩ := whyOf_w hw
    refine st_try 6 sc_law_read.nd T.x_QuiltError fun pn xe hpass => ?_
    refine st_setR 4 (R := fun z => z = NoPic y) (exx_call (ok_read_picture T) (hr.mono (by decide)) (ea_cons (ev_var 0) (ea_cons (ev_var 1) ea_nil)) fun P' R' _ h => ⟨x, signs, rfl, hx, hl, fun z hz => by (rw [hw] at hz; cases hz; exact h _ rfl), fun z => by rw [hw] at z; cases z⟩) (fun z e => ?_) sc_law_read.nd
    subst e
    refine .inl ⟨T.s_NoPicture_QuiltError, fun a pn => ?_⟩
    refine st_set 5 (x := (ErrW.mk "NoPicture" "why" y)) (ev_var 6) (st_nil ?_) sc_law_read.nd
    refine st_if (k := false) (et_cmp (o_isNo (α := Why)) (ev_un (x := y) (ev_var 3)) ev_non) (fun h => nomatch h) (fun _ => st_nil ?_)
    exact st_retV (ev_eq (y := true) (ev_and2 (ev_cmp o_isU (ev_var 4) ev_non) fun _ => ev_cmp (o_eqD (α := Why) hr hy1 hy1) (ev_call (x := y) (ok_law_why_of T) (hr.mono (by decide)) (ea_cons (ev_var 5) ea_nil) fun P' R' h => ⟨y, rfl, hy2, h⟩) (ev_un (x := y) (ev_var 3))) (by simp)) hQ
  | none =>
    have h6 := whyOf_none hw
    refine st_try 6 sc_law_read.nd T.x_QuiltError fun pn xe hpass => ?_
    refine st_setXN 4 (xs := rowsOf x) (R := fun _ => False) (exx_call (ok_read_picture T) (hr.mono (by decide)) (ea_cons (ev_var 0) (ea_cons (ev_var 1) ea_nil)) fun P' R' h _ => ⟨x, signs, rfl, hx, hl, fun z hz => by (rw [hw] at hz; cases hz), fun _ => h _ rfl⟩) (fun ad => st_nil ?_) (fun _ z => z.elim) sc_law_read.nd
    refine st_if (k := true) (et_cmp o_isU (ev_unN (α := Why) (i := repWhy) (ev_var 3)) ev_non) (fun _ => ?_) (fun h => nomatch h)
    exact st_retV (ev_eq (y := true) (ev_and2 (ev_cmp o_isU (ev_var 5) ev_non) fun _ => ev_lend 4 (ev_call (x := decide (rowsOf x = rowsOf x)) (ok_law_texts T) (hr.mono (by decide)) (ea_cons (ev_var 4) (ea_cons (ev_var 2) ea_nil)) fun P R h => ⟨_, _, rfl, h6, hpic, hpic, h⟩)) (by simp)) hQ
theorem body_law (T : Txt K mg) : BodyOk P w K mg base 20 "law" s_law N_law ["_law_script"] lawS := by
  intro f cdv A outer s0 H E hr Γ Q R ⟨s, e, hl, hq⟩
  subst e
  have hsg := lawSigns_len (c := lawCell s.l 0) (m := 8) (by decide) (by decide)
  have hsok := lawSigns_ok (c := lawCell s.l 0) (m := 8)
  have cell : ∀ {Γ : List Slot} {k : Int} {j} {p1 p2 p3 p4}, 0 ≤ k → Γ[0]? = some (vl s) → EV (cxOf (L2.CX P w) P w K mg base N_law "law" (defScope s_law) f cdv A outer s0 H E).nox Γ (.Call (.Name "_law_cell" p1) [.Name "_law_script" p2, .Constant (.int k) j p3] [] p4) (lawCell s.l k) := fun {Γ k j p1 p2 p3 p4} hk hg =>
    ev_call (ok_law_cell T) (hr.mono (by decide)) (ea_cons (ev_var 0 (hg := hg)) (ea_cons ev_int ea_nil)) fun P R h => ⟨_, _, rfl, hl, hk, h⟩
  refine st_set 1 (ev_call (ok_law_signs T) (hr.mono (by decide)) (ea_cons (cell (by decide) rfl) (ea_cons ev_int ea_nil)) fun P R h => ⟨_, _, rfl, by decide, by decide, h⟩) ?_ sc_law.nd
  generalize lawSigns (lawCell s.l 0) 8 = signs at hsg hsok
  refine st_set 2 (ev_bin (o_mod (by decide)) (cell (by decide) rfl) ev_int) ?_ sc_law.nd
  have h1 := Int.emod_nonneg (lawCell s.l 1) (by decide : (36 : Int) ≠ 0)
  have h2 := Int.emod_lt_of_pos (lawCell s.l 1) (by decide : (0 : Int) < 36)
  generalize lawCell s.l 1 % 36 = size at h1 h2
  obtain ⟨rr, er⟩ : ∃ rr : Nat, 1 + size / 6 = (rr : Int) := ⟨(1 + size / 6).toNat, by omega⟩
  obtain ⟨cc, ec⟩ : ∃ cc : Nat, 1 + size % 6 = (cc : Int) := ⟨(1 + size % 6).toNat, by omega⟩
  refine st_set 3 (ev_of_en (en_call (ok_law_picture T) (hr.mono (by decide)) (ea_cons (ev_var 0) (ea_cons ev_int (ea_cons (ev_eq (ev_bin o_add ev_int (ev_bin (o_div divK) (ev_var 2) ev_int)) er) (ea_cons (ev_eq (ev_bin o_add ev_int (ev_bin (o_mod (by decide)) (ev_var 2) ev_int)) ec) (ea_cons (ev_var 1) ea_nil)))))
    fun P R h => ⟨_, _, _, _, _, rfl, hl, by decide, by omega, by omega, hsg.1, by omega, h⟩)) ?_ sc_law.nd
  have hp : Pk (lawPicture s.l 4 rr cc signs) rr cc := lawPicture_pk (by omega) (by omega) (by omega) (by omega)
  have ho : PicOk (lawPicture s.l 4 rr cc signs) := lawPicture_ok hsok
  generalize lawPicture s.l 4 rr cc signs = p at hp ho
  have hr6 := hp.r6
  have hc6 := hp.c6
  have hplen := hp.len
  have flen : ∀ k, ((p.take k).flatMap fun r => r ++ [47]).length ≤ 7 * k ∧ ((p.take k).flatMap fun r => r ++ [47]).length ≤ 42 := fun k => by
    have := flat_len (p.take k) (fun r => r ++ [47]) 7 fun x hx => by
      have := hp.row x (List.mem_of_mem_take hx)
      simp; omega
    rw [List.length_take] at this
    constructor <;> omega
  refine st_set 4 (ev_str "") ?_ sc_law.nd
  refine st_for (xs := p) (fun k Γ => Le Γ [vl s, vl signs, .no, vl p, vl ((p.take k).flatMap fun r => r ++ [47]), .no, .no, .no, .no]) (src_list (ev_var 3)) (tg_name 5) (by walk_at "le")
    (fun k x Γ1 hk hP1 => ?_) (fun Γ1 hP1 => ?_) (pgn 5 sc_law.nd)
  · refine st_le (Le.set hP1 5 _) ?_
    have hx := hp.row x (List.mem_of_getElem? hk)
    have hf := (flen k).2
    have e47 : tx "/" = [47] := by decide +kernel
    refine st_set 4 (ev_eq (y := (p.take (k + 1)).flatMap fun r => r ++ [47]) (ev_bin (o_addS (x := ((p.take k).flatMap fun r => r ++ [47]) ++ x) (y := tx "/") ?_) (ev_bin (o_addS (x := (p.take k).flatMap fun r => r ++ [47]) (y := x) ?_) (ev_var 4) (ev_var 5)) (ev_str "/")) ?_) (st_nil ?_) sc_law.nd
    · rw [List.length_append, e47]; exact sl_small (by show _ + 1 ≤ 1000; omega)
    · exact sl_small (by omega)
    · rw [take_snoc hk, List.flatMap_append, e47]; simp
    · show Le _ _
      walk_at "le"
  · refine st_le hP1 ?_
    rw [List.take_length]
    have hne : p ≠ [] := fun z => by rw [z] at hplen; have := hp.r0; simp at hplen; omega
    have hfl := (flen p.length).2
    rw [List.take_length] at hfl
    rw [joinL_slash hne]
    rw [joinL_slash hne] at hfl
    have hjl : (TL.joinL [47] p).length ≤ 41 := by rw [List.length_append] at hfl; simp at hfl; omega
    have hjo : TxOk (TL.joinL [47] p) := fun c hc => by
      have : c ∈ p.flatMap (fun r => r ++ [47]) := by rw [joinL_slash hne]; exact List.mem_append_left _ hc
      obtain ⟨r, hr', hc'⟩ := List.mem_flatMap.mp this
      rcases List.mem_append.mp hc' with z | z
      · exact ho r hr' c z
      · rw [List.mem_singleton.mp z]; decide
    refine st_set 4 (ev_eq (ev_sliceS (o1 := none) (o2 := some (-1)) (ev_var 4) trivial (ev_neg ev_int) (sl_small (by omega))) cut_last) ?_ sc_law.nd
    refine st_set 6 (ev_of_en (en_list T.b_list (ev_var 3))) ?_ sc_law.nd
    refine st_set 7 (ev_call (x := TL.joinL [47] p) (ok_shown T) (hr.mono (by decide)) (ea_cons (ev_var 6) ea_nil) fun P R h => ⟨p, _, _, rfl, hp, h⟩) ?_ sc_law.nd
    generalize TL.joinL [47] p = text at hjl hjo
    refine st_if (k := false) (et_eq (et_or4 (et_not (et_val (ev_isi (α := Tx) "str" true T.b_isinstance T.b_str (ev_var 7)))) (fun _ => et_cmp o_neS (ev_var 7) (ev_var 4)) (fun _ _ => et_cmp (o_neD (α := Pic) hr ho ho) (ev_var 6) (ev_var 3)) fun _ _ _ => et_not (et_val (ev_call (x := true) (ok_law_read T) (hr.mono (by decide)) (ea_cons (ev_var 4) (ea_cons (ev_var 1) ea_nil)) fun P R h => ⟨text, signs, rfl, hjo, by omega, h⟩))) (by simp)) (fun h => nomatch h) (fun _ => st_nil ?_)
    refine st_setEx 8 (α := Tx) (i := repTx) (G := fun y => TxOk y ∧ y.length ≤ 43) (ex_callO (ok_law_spoilt T) (hr.mono (by decide)) (eao_ex (i := repTx) (G := fun y => TxOk y ∧ y.length ≤ 42) (ex_call (ok_law_spoilt T) (hr.mono (by decide)) (ea_cons (ev_var 4) (ea_cons (cell (by decide) rfl) ea_nil)) fun P' R' h => ⟨text, _, rfl, hjo, by omega, fun y h1 h2 => h _ ⟨y, ⟨h1, by omega⟩, rfl⟩⟩) (eao_v (cell (by decide) rfl) eao_nil)) fun A' hA P' R' h => ?_) (fun y hy => ?_) sc_law.nd
    · obtain ⟨y, A1, ⟨hy1, hy2⟩, rfl, A2, rfl, rfl⟩ := hA
      exact ⟨y, _, rfl, hy1, by omega, fun z h1 h2 => h _ ⟨z, ⟨h1, by omega⟩, rfl⟩⟩
    · exact st_retV (ev_eq (y := true) (ev_and2 (ev_call (x := true) (ok_law_read T) (hr.mono (by decide)) (ea_cons (ev_var 8) (ea_cons (ev_var 1) ea_nil)) fun P R h => ⟨y, signs, rfl, hy.1, by have := hy.2; omega, h⟩) fun _ => ev_call (x := true) (ok_law_read T) (hr.mono (by decide)) (ea_cons (ev_var 4) (ea_cons (ev_var 1) ea_nil)) fun P R h => ⟨text, signs, rfl, hjo, by omega, h⟩) rfl) hq
end

theorem df_of {K : PySem.W.Frag} {h : Heap} {mg : Str → Option Value} {n : Str} {st : Stmt} {ps : List Str} {f : Addr} {oc : Value} {od an : Option Addr} {osl : Array (Option Value)} {kV doc pm cdv ct : Value} (X : K.In h) (G : h.Ns mainGlobals mg) (a : PySem.W.nsIn K mainGlobals n = some (some (.ref f))) (l : K.lookup f = some ⟨oc, od, .func (PySem.W.fnOf n n (defArgs st) (defBody st) (defScope st) .none kV doc pm an cdv ct), osl⟩)
    (c : PySem.W.codeIn K cdv n = true) (k : PySem.W.keepIn K (.ref f) = true)
    (hb : ∀ (kV doc pm : Value) (an : Option Addr) (cdv ct : Value) (us : List Value), us.length = ps.length → bindArgs (PySem.W.fnOf n n (defArgs st) (defBody st) (defScope st) .none kV doc pm an cdv ct) ⟨us, []⟩ = pure (ps.zip us)) : Df K mg n st ps :=
  ⟨f, _, fun_mk l c k, (fun_mk (st := st) l c k).binds hb, PySem.W.mg_of X G a⟩
theorem txt_mk {K : PySem.W.Frag} {h : Heap} {mg : Str → Option Value} (X : K.In h) (G : h.Ns mainGlobals mg)
    (zb_ValueError : PySem.W.nsIn K mainGlobals "ValueError" = some none)
    (zb_all : PySem.W.nsIn K mainGlobals "all" = some none)
    (zb_bool : PySem.W.nsIn K mainGlobals "bool" = some none)
    (zb_enumerate : PySem.W.nsIn K mainGlobals "enumerate" = some none)
    (zb_int : PySem.W.nsIn K mainGlobals "int" = some none)
    (zb_isinstance : PySem.W.nsIn K mainGlobals "isinstance" = some none)
    (zb_len : PySem.W.nsIn K mainGlobals "len" = some none)
    (zb_list : PySem.W.nsIn K mainGlobals "list" = some none)
    (zb_range : PySem.W.nsIn K mainGlobals "range" = some none)
    (zb_str : PySem.W.nsIn K mainGlobals "str" = some none)
    (zb_tuple : PySem.W.nsIn K mainGlobals "tuple" = some none)
    {t_MOST : Tok} (zc_MOST : PySem.W.nsIn K mainGlobals "MOST" = some (some (.int 6 t_MOST)))
    (xn : PySem.W.specialIn K (.builtin "object.__class__") "__get__" = some (some (.builtin "getset_descriptor.__get__")))
    (xq : PySem.W.takesIn K (.builtin "object.__class__") = some true)
    {C_QuiltError : Addr}
    (xa_QuiltError : PySem.W.nsIn K mainGlobals "QuiltError" = some (some (.ref C_QuiltError)))
    (xk_QuiltError : PySem.W.keepIn K (.ref C_QuiltError) = true)
    (xt_QuiltError : PySem.W.typeIn K (.ref C_QuiltError) = some (.type "type"))
    (xg_QuiltError : PySem.W.findIn K (.ref C_QuiltError) "__getattribute__" = some (some (.builtin "BaseException.__getattribute__")))
    (xh_QuiltError : PySem.W.findIn K (.ref C_QuiltError) "__getattr__" = some none)
    (xs_QuiltError : PySem.W.subIn K (.ref C_QuiltError) (.type "BaseException") = some true)
    (xd_QuiltError : PySem.W.hasDictIn K C_QuiltError = true)
    (xc_QuiltError : PySem.W.findIn K (.ref C_QuiltError) "__class__" = some (some (.builtin "object.__class__")))
    (xm_QuiltError : PySem.W.mroIn K C_QuiltError (.type "object") = some true)
    {C_NoPicture : Addr}
    (xa_NoPicture : PySem.W.nsIn K mainGlobals "NoPicture" = some (some (.ref C_NoPicture)))
    (xk_NoPicture : PySem.W.keepIn K (.ref C_NoPicture) = true)
    (xt_NoPicture : PySem.W.typeIn K (.ref C_NoPicture) = some (.type "type"))
    (xg_NoPicture : PySem.W.findIn K (.ref C_NoPicture) "__getattribute__" = some (some (.builtin "BaseException.__getattribute__")))
    (xh_NoPicture : PySem.W.findIn K (.ref C_NoPicture) "__getattr__" = some none)
    (xs_NoPicture : PySem.W.subIn K (.ref C_NoPicture) (.type "BaseException") = some true)
    (xd_NoPicture : PySem.W.hasDictIn K C_NoPicture = true)
    (xc_NoPicture : PySem.W.findIn K (.ref C_NoPicture) "__class__" = some (some (.builtin "object.__class__")))
    (xm_NoPicture : PySem.W.mroIn K C_NoPicture (.type "object") = some true)
    {C_NoFit : Addr}
    (xa_NoFit : PySem.W.nsIn K mainGlobals "NoFit" = some (some (.ref C_NoFit)))
    (xk_NoFit : PySem.W.keepIn K (.ref C_NoFit) = true)
    (xt_NoFit : PySem.W.typeIn K (.ref C_NoFit) = some (.type "type"))
    (xg_NoFit : PySem.W.findIn K (.ref C_NoFit) "__getattribute__" = some (some (.builtin "BaseException.__getattribute__")))
    (xh_NoFit : PySem.W.findIn K (.ref C_NoFit) "__getattr__" = some none)
    (xs_NoFit : PySem.W.subIn K (.ref C_NoFit) (.type "BaseException") = some true)
    (xd_NoFit : PySem.W.hasDictIn K C_NoFit = true)
    (xc_NoFit : PySem.W.findIn K (.ref C_NoFit) "__class__" = some (some (.builtin "object.__class__")))
    (xm_NoFit : PySem.W.mroIn K C_NoFit (.type "object") = some true)
    {C_NoRule : Addr}
    (xa_NoRule : PySem.W.nsIn K mainGlobals "NoRule" = some (some (.ref C_NoRule)))
    (xk_NoRule : PySem.W.keepIn K (.ref C_NoRule) = true)
    (xt_NoRule : PySem.W.typeIn K (.ref C_NoRule) = some (.type "type"))
    (xg_NoRule : PySem.W.findIn K (.ref C_NoRule) "__getattribute__" = some (some (.builtin "BaseException.__getattribute__")))
    (xh_NoRule : PySem.W.findIn K (.ref C_NoRule) "__getattr__" = some none)
    (xs_NoRule : PySem.W.subIn K (.ref C_NoRule) (.type "BaseException") = some true)
    (xd_NoRule : PySem.W.hasDictIn K C_NoRule = true)
    (xc_NoRule : PySem.W.findIn K (.ref C_NoRule) "__class__" = some (some (.builtin "object.__class__")))
    (xm_NoRule : PySem.W.mroIn K C_NoRule (.type "object") = some true)
    {C_NoGrammar : Addr}
    (xa_NoGrammar : PySem.W.nsIn K mainGlobals "NoGrammar" = some (some (.ref C_NoGrammar)))
    (xk_NoGrammar : PySem.W.keepIn K (.ref C_NoGrammar) = true)
    (xt_NoGrammar : PySem.W.typeIn K (.ref C_NoGrammar) = some (.type "type"))
    (xg_NoGrammar : PySem.W.findIn K (.ref C_NoGrammar) "__getattribute__" = some (some (.builtin "BaseException.__getattribute__")))
    (xh_NoGrammar : PySem.W.findIn K (.ref C_NoGrammar) "__getattr__" = some none)
    (xs_NoGrammar : PySem.W.subIn K (.ref C_NoGrammar) (.type "BaseException") = some true)
    (xd_NoGrammar : PySem.W.hasDictIn K C_NoGrammar = true)
    (xc_NoGrammar : PySem.W.findIn K (.ref C_NoGrammar) "__class__" = some (some (.builtin "object.__class__")))
    (xm_NoGrammar : PySem.W.mroIn K C_NoGrammar (.type "object") = some true)
    {C_NoText : Addr}
    (xa_NoText : PySem.W.nsIn K mainGlobals "NoText" = some (some (.ref C_NoText)))
    (xk_NoText : PySem.W.keepIn K (.ref C_NoText) = true)
    (xt_NoText : PySem.W.typeIn K (.ref C_NoText) = some (.type "type"))
    (xg_NoText : PySem.W.findIn K (.ref C_NoText) "__getattribute__" = some (some (.builtin "BaseException.__getattribute__")))
    (xh_NoText : PySem.W.findIn K (.ref C_NoText) "__getattr__" = some none)
    (xs_NoText : PySem.W.subIn K (.ref C_NoText) (.type "BaseException") = some true)
    (xd_NoText : PySem.W.hasDictIn K C_NoText = true)
    (xc_NoText : PySem.W.findIn K (.ref C_NoText) "__class__" = some (some (.builtin "object.__class__")))
    (xm_NoText : PySem.W.mroIn K C_NoText (.type "object") = some true)
    {C_NoTree : Addr}
    (xa_NoTree : PySem.W.nsIn K mainGlobals "NoTree" = some (some (.ref C_NoTree)))
    (xk_NoTree : PySem.W.keepIn K (.ref C_NoTree) = true)
    (xt_NoTree : PySem.W.typeIn K (.ref C_NoTree) = some (.type "type"))
    (xg_NoTree : PySem.W.findIn K (.ref C_NoTree) "__getattribute__" = some (some (.builtin "BaseException.__getattribute__")))
    (xh_NoTree : PySem.W.findIn K (.ref C_NoTree) "__getattr__" = some none)
    (xs_NoTree : PySem.W.subIn K (.ref C_NoTree) (.type "BaseException") = some true)
    (xd_NoTree : PySem.W.hasDictIn K C_NoTree = true)
    (xc_NoTree : PySem.W.findIn K (.ref C_NoTree) "__class__" = some (some (.builtin "object.__class__")))
    (xm_NoTree : PySem.W.mroIn K C_NoTree (.type "object") = some true)
    {C_NoWord : Addr}
    (xa_NoWord : PySem.W.nsIn K mainGlobals "NoWord" = some (some (.ref C_NoWord)))
    (xk_NoWord : PySem.W.keepIn K (.ref C_NoWord) = true)
    (xt_NoWord : PySem.W.typeIn K (.ref C_NoWord) = some (.type "type"))
    (xg_NoWord : PySem.W.findIn K (.ref C_NoWord) "__getattribute__" = some (some (.builtin "BaseException.__getattribute__")))
    (xh_NoWord : PySem.W.findIn K (.ref C_NoWord) "__getattr__" = some none)
    (xs_NoWord : PySem.W.subIn K (.ref C_NoWord) (.type "BaseException") = some true)
    (xd_NoWord : PySem.W.hasDictIn K C_NoWord = true)
    (xc_NoWord : PySem.W.findIn K (.ref C_NoWord) "__class__" = some (some (.builtin "object.__class__")))
    (xm_NoWord : PySem.W.mroIn K C_NoWord (.type "object") = some true)
    {C_NoName : Addr}
    (xa_NoName : PySem.W.nsIn K mainGlobals "NoName" = some (some (.ref C_NoName)))
    (xk_NoName : PySem.W.keepIn K (.ref C_NoName) = true)
    (xt_NoName : PySem.W.typeIn K (.ref C_NoName) = some (.type "type"))
    (xg_NoName : PySem.W.findIn K (.ref C_NoName) "__getattribute__" = some (some (.builtin "BaseException.__getattribute__")))
    (xh_NoName : PySem.W.findIn K (.ref C_NoName) "__getattr__" = some none)
    (xs_NoName : PySem.W.subIn K (.ref C_NoName) (.type "BaseException") = some true)
    (xd_NoName : PySem.W.hasDictIn K C_NoName = true)
    (xc_NoName : PySem.W.findIn K (.ref C_NoName) "__class__" = some (some (.builtin "object.__class__")))
    (xm_NoName : PySem.W.mroIn K C_NoName (.type "object") = some true)
    {C_TooMany : Addr}
    (xa_TooMany : PySem.W.nsIn K mainGlobals "TooMany" = some (some (.ref C_TooMany)))
    (xk_TooMany : PySem.W.keepIn K (.ref C_TooMany) = true)
    (xt_TooMany : PySem.W.typeIn K (.ref C_TooMany) = some (.type "type"))
    (xg_TooMany : PySem.W.findIn K (.ref C_TooMany) "__getattribute__" = some (some (.builtin "BaseException.__getattribute__")))
    (xh_TooMany : PySem.W.findIn K (.ref C_TooMany) "__getattr__" = some none)
    (xs_TooMany : PySem.W.subIn K (.ref C_TooMany) (.type "BaseException") = some true)
    (xd_TooMany : PySem.W.hasDictIn K C_TooMany = true)
    (xc_TooMany : PySem.W.findIn K (.ref C_TooMany) "__class__" = some (some (.builtin "object.__class__")))
    (xm_TooMany : PySem.W.mroIn K C_TooMany (.type "object") = some true)
    {C_NoNumber : Addr}
    (xa_NoNumber : PySem.W.nsIn K mainGlobals "NoNumber" = some (some (.ref C_NoNumber)))
    (xk_NoNumber : PySem.W.keepIn K (.ref C_NoNumber) = true)
    (xt_NoNumber : PySem.W.typeIn K (.ref C_NoNumber) = some (.type "type"))
    (xg_NoNumber : PySem.W.findIn K (.ref C_NoNumber) "__getattribute__" = some (some (.builtin "BaseException.__getattribute__")))
    (xh_NoNumber : PySem.W.findIn K (.ref C_NoNumber) "__getattr__" = some none)
    (xs_NoNumber : PySem.W.subIn K (.ref C_NoNumber) (.type "BaseException") = some true)
    (xd_NoNumber : PySem.W.hasDictIn K C_NoNumber = true)
    (xc_NoNumber : PySem.W.findIn K (.ref C_NoNumber) "__class__" = some (some (.builtin "object.__class__")))
    (xm_NoNumber : PySem.W.mroIn K C_NoNumber (.type "object") = some true)
    {C_NoRow : Addr}
    (xa_NoRow : PySem.W.nsIn K mainGlobals "NoRow" = some (some (.ref C_NoRow)))
    (xk_NoRow : PySem.W.keepIn K (.ref C_NoRow) = true)
    (xt_NoRow : PySem.W.typeIn K (.ref C_NoRow) = some (.type "type"))
    (xg_NoRow : PySem.W.findIn K (.ref C_NoRow) "__getattribute__" = some (some (.builtin "BaseException.__getattribute__")))
    (xh_NoRow : PySem.W.findIn K (.ref C_NoRow) "__getattr__" = some none)
    (xs_NoRow : PySem.W.subIn K (.ref C_NoRow) (.type "BaseException") = some true)
    (xd_NoRow : PySem.W.hasDictIn K C_NoRow = true)
    (xc_NoRow : PySem.W.findIn K (.ref C_NoRow) "__class__" = some (some (.builtin "object.__class__")))
    (xm_NoRow : PySem.W.mroIn K C_NoRow (.type "object") = some true)
    {nm_NoPicture qn_NoPicture : Str} {NN_NoPicture fI_NoPicture : Addr} {bs_NoPicture bm_NoPicture : List Value} {sn_NoPicture : List Str} {su_NoPicture : List Value} {ab_NoPicture : Bool} {col_NoPicture : _} {dd_NoPicture : Option Addr} {k0_NoPicture k1_NoPicture k2_NoPicture k3_NoPicture k5_NoPicture : Option Value}
    (xl_NoPicture : K.lookup C_NoPicture = some (excClassObj nm_NoPicture qn_NoPicture C_NoPicture NN_NoPicture bs_NoPicture bm_NoPicture true sn_NoPicture su_NoPicture ab_NoPicture col_NoPicture dd_NoPicture k0_NoPicture k1_NoPicture k2_NoPicture k3_NoPicture k5_NoPicture "ValueError.__new__"))
    (xv_NoPicture : PySem.HandSPX.refsVE bm_NoPicture = true)
    (xw_NoPicture : PySem.W.findIn K (.ref C_NoPicture) "__setattr__" = some (some (.builtin "object.__setattr__")))
    (xf_NoPicture : PySem.W.findIn K (.ref C_NoPicture) "why" = some none)
    (xi_NoPicture : PySem.W.findIn K (.ref C_NoPicture) "__init__" = some (some (.ref fI_NoPicture)))
    (xj_NoPicture : PySem.W.typeIn K (.ref fI_NoPicture) = some (.type "function"))
    {od_iNoPicture an_iNoPicture : Option Addr} {sl_iNoPicture : Array (Option Value)} {oc_iNoPicture kV_iNoPicture dc_iNoPicture pm_iNoPicture cd_iNoPicture ct_iNoPicture : Value}
    (xo_NoPicture : K.lookup fI_NoPicture = some ⟨oc_iNoPicture, od_iNoPicture, .func (PySem.W.fnOf "__init__" "NoPicture.__init__" (defArgs s_NoPicture_init) (defBody s_NoPicture_init) (defScope s_NoPicture_init) .none kV_iNoPicture dc_iNoPicture pm_iNoPicture an_iNoPicture cd_iNoPicture ct_iNoPicture), sl_iNoPicture⟩)
    (xu_NoPicture : PySem.W.codeIn K cd_iNoPicture "NoPicture.__init__" = true)
    (xz_NoPicture : PySem.W.keepIn K (.ref fI_NoPicture) = true)
    (qs_QuiltError : PySem.W.specialIn K (.ref C_QuiltError) "__getattribute__" = some (some (.builtin "type.__getattribute__")))
    (qr_QuiltError : PySem.W.readsIn K C_QuiltError (.type "type") = true)
    (qf_QuiltError : PySem.W.findCls K (.ref C_QuiltError) (.type "type") "__init__" = some (.val (.builtin "ValueError.__init__")))
    (y_NoPicture_NoFit : PySem.W.subIn K (.ref C_NoPicture) (.ref C_NoFit) = some false)
    (d_NoPicture_NoFit : ¬ C_NoPicture = C_NoFit)
    (y_NoPicture_NoGrammar : PySem.W.subIn K (.ref C_NoPicture) (.ref C_NoGrammar) = some false)
    (d_NoPicture_NoGrammar : ¬ C_NoPicture = C_NoGrammar)
    (y_NoPicture_NoName : PySem.W.subIn K (.ref C_NoPicture) (.ref C_NoName) = some false)
    (d_NoPicture_NoName : ¬ C_NoPicture = C_NoName)
    (y_NoPicture_NoNumber : PySem.W.subIn K (.ref C_NoPicture) (.ref C_NoNumber) = some false)
    (d_NoPicture_NoNumber : ¬ C_NoPicture = C_NoNumber)
    (y_NoPicture_NoRow : PySem.W.subIn K (.ref C_NoPicture) (.ref C_NoRow) = some false)
    (d_NoPicture_NoRow : ¬ C_NoPicture = C_NoRow)
    (y_NoPicture_NoRule : PySem.W.subIn K (.ref C_NoPicture) (.ref C_NoRule) = some false)
    (d_NoPicture_NoRule : ¬ C_NoPicture = C_NoRule)
    (y_NoPicture_NoText : PySem.W.subIn K (.ref C_NoPicture) (.ref C_NoText) = some false)
    (d_NoPicture_NoText : ¬ C_NoPicture = C_NoText)
    (y_NoPicture_NoTree : PySem.W.subIn K (.ref C_NoPicture) (.ref C_NoTree) = some false)
    (d_NoPicture_NoTree : ¬ C_NoPicture = C_NoTree)
    (y_NoPicture_NoWord : PySem.W.subIn K (.ref C_NoPicture) (.ref C_NoWord) = some false)
    (d_NoPicture_NoWord : ¬ C_NoPicture = C_NoWord)
    (y_NoPicture_TooMany : PySem.W.subIn K (.ref C_NoPicture) (.ref C_TooMany) = some false)
    (d_NoPicture_TooMany : ¬ C_NoPicture = C_TooMany)
    (y_NoPicture_QuiltError : PySem.W.subIn K (.ref C_NoPicture) (.ref C_QuiltError) = some true)
    (y_NoPicture_NoPicture : PySem.W.subIn K (.ref C_NoPicture) (.ref C_NoPicture) = some true)
    (y_NoPicture_ValueError : PySem.W.subIn K (.ref C_NoPicture) (.type "ValueError") = some true)
    {f_checked : Addr} {od_checked an_checked : Option Addr} {sl_checked : Array (Option Value)} {oc_checked kV_checked dc_checked pm_checked cd_checked ct_checked : Value} (a_checked : PySem.W.nsIn K mainGlobals "checked" = some (some (.ref f_checked))) (l_checked : K.lookup f_checked = some ⟨oc_checked, od_checked, .func (PySem.W.fnOf "checked" "checked" (defArgs s_checked) (defBody s_checked) (defScope s_checked) .none kV_checked dc_checked pm_checked an_checked cd_checked ct_checked), sl_checked⟩) (c_checked : PySem.W.codeIn K cd_checked "checked" = true) (k_checked : PySem.W.keepIn K (.ref f_checked) = true)
    {f_shown : Addr} {od_shown an_shown : Option Addr} {sl_shown : Array (Option Value)} {oc_shown kV_shown dc_shown pm_shown cd_shown ct_shown : Value} (a_shown : PySem.W.nsIn K mainGlobals "shown" = some (some (.ref f_shown))) (l_shown : K.lookup f_shown = some ⟨oc_shown, od_shown, .func (PySem.W.fnOf "shown" "shown" (defArgs s_shown) (defBody s_shown) (defScope s_shown) .none kV_shown dc_shown pm_shown an_shown cd_shown ct_shown), sl_shown⟩) (c_shown : PySem.W.codeIn K cd_shown "shown" = true) (k_shown : PySem.W.keepIn K (.ref f_shown) = true)
    {f_read_picture : Addr} {od_read_picture an_read_picture : Option Addr} {sl_read_picture : Array (Option Value)} {oc_read_picture kV_read_picture dc_read_picture pm_read_picture cd_read_picture ct_read_picture : Value} (a_read_picture : PySem.W.nsIn K mainGlobals "read_picture" = some (some (.ref f_read_picture))) (l_read_picture : K.lookup f_read_picture = some ⟨oc_read_picture, od_read_picture, .func (PySem.W.fnOf "read_picture" "read_picture" (defArgs s_read_picture) (defBody s_read_picture) (defScope s_read_picture) .none kV_read_picture dc_read_picture pm_read_picture an_read_picture cd_read_picture ct_read_picture), sl_read_picture⟩) (c_read_picture : PySem.W.codeIn K cd_read_picture "read_picture" = true) (k_read_picture : PySem.W.keepIn K (.ref f_read_picture) = true)
    {f_law_cell : Addr} {od_law_cell an_law_cell : Option Addr} {sl_law_cell : Array (Option Value)} {oc_law_cell kV_law_cell dc_law_cell pm_law_cell cd_law_cell ct_law_cell : Value} (a_law_cell : PySem.W.nsIn K mainGlobals "_law_cell" = some (some (.ref f_law_cell))) (l_law_cell : K.lookup f_law_cell = some ⟨oc_law_cell, od_law_cell, .func (PySem.W.fnOf "_law_cell" "_law_cell" (defArgs s_law_cell) (defBody s_law_cell) (defScope s_law_cell) .none kV_law_cell dc_law_cell pm_law_cell an_law_cell cd_law_cell ct_law_cell), sl_law_cell⟩) (c_law_cell : PySem.W.codeIn K cd_law_cell "_law_cell" = true) (k_law_cell : PySem.W.keepIn K (.ref f_law_cell) = true)
    {f_law_whole : Addr} {od_law_whole an_law_whole : Option Addr} {sl_law_whole : Array (Option Value)} {oc_law_whole kV_law_whole dc_law_whole pm_law_whole cd_law_whole ct_law_whole : Value} (a_law_whole : PySem.W.nsIn K mainGlobals "_law_whole" = some (some (.ref f_law_whole))) (l_law_whole : K.lookup f_law_whole = some ⟨oc_law_whole, od_law_whole, .func (PySem.W.fnOf "_law_whole" "_law_whole" (defArgs s_law_whole) (defBody s_law_whole) (defScope s_law_whole) .none kV_law_whole dc_law_whole pm_law_whole an_law_whole cd_law_whole ct_law_whole), sl_law_whole⟩) (c_law_whole : PySem.W.codeIn K cd_law_whole "_law_whole" = true) (k_law_whole : PySem.W.keepIn K (.ref f_law_whole) = true)
    {f_law_signs : Addr} {od_law_signs an_law_signs : Option Addr} {sl_law_signs : Array (Option Value)} {oc_law_signs kV_law_signs dc_law_signs pm_law_signs cd_law_signs ct_law_signs : Value} (a_law_signs : PySem.W.nsIn K mainGlobals "_law_signs" = some (some (.ref f_law_signs))) (l_law_signs : K.lookup f_law_signs = some ⟨oc_law_signs, od_law_signs, .func (PySem.W.fnOf "_law_signs" "_law_signs" (defArgs s_law_signs) (defBody s_law_signs) (defScope s_law_signs) .none kV_law_signs dc_law_signs pm_law_signs an_law_signs cd_law_signs ct_law_signs), sl_law_signs⟩) (c_law_signs : PySem.W.codeIn K cd_law_signs "_law_signs" = true) (k_law_signs : PySem.W.keepIn K (.ref f_law_signs) = true)
    {f_law_row : Addr} {od_law_row an_law_row : Option Addr} {sl_law_row : Array (Option Value)} {oc_law_row kV_law_row dc_law_row pm_law_row cd_law_row ct_law_row : Value} (a_law_row : PySem.W.nsIn K mainGlobals "_law_row" = some (some (.ref f_law_row))) (l_law_row : K.lookup f_law_row = some ⟨oc_law_row, od_law_row, .func (PySem.W.fnOf "_law_row" "_law_row" (defArgs s_law_row) (defBody s_law_row) (defScope s_law_row) .none kV_law_row dc_law_row pm_law_row an_law_row cd_law_row ct_law_row), sl_law_row⟩) (c_law_row : PySem.W.codeIn K cd_law_row "_law_row" = true) (k_law_row : PySem.W.keepIn K (.ref f_law_row) = true)
    {f_law_any_sign : Addr} {od_law_any_sign an_law_any_sign : Option Addr} {sl_law_any_sign : Array (Option Value)} {oc_law_any_sign kV_law_any_sign dc_law_any_sign pm_law_any_sign cd_law_any_sign ct_law_any_sign : Value} (a_law_any_sign : PySem.W.nsIn K mainGlobals "_law_any_sign" = some (some (.ref f_law_any_sign))) (l_law_any_sign : K.lookup f_law_any_sign = some ⟨oc_law_any_sign, od_law_any_sign, .func (PySem.W.fnOf "_law_any_sign" "_law_any_sign" (defArgs s_law_any_sign) (defBody s_law_any_sign) (defScope s_law_any_sign) .none kV_law_any_sign dc_law_any_sign pm_law_any_sign an_law_any_sign cd_law_any_sign ct_law_any_sign), sl_law_any_sign⟩) (c_law_any_sign : PySem.W.codeIn K cd_law_any_sign "_law_any_sign" = true) (k_law_any_sign : PySem.W.keepIn K (.ref f_law_any_sign) = true)
    {f_law_why : Addr} {od_law_why an_law_why : Option Addr} {sl_law_why : Array (Option Value)} {oc_law_why kV_law_why dc_law_why pm_law_why cd_law_why ct_law_why : Value} (a_law_why : PySem.W.nsIn K mainGlobals "_law_why" = some (some (.ref f_law_why))) (l_law_why : K.lookup f_law_why = some ⟨oc_law_why, od_law_why, .func (PySem.W.fnOf "_law_why" "_law_why" (defArgs s_law_why) (defBody s_law_why) (defScope s_law_why) .none kV_law_why dc_law_why pm_law_why an_law_why cd_law_why ct_law_why), sl_law_why⟩) (c_law_why : PySem.W.codeIn K cd_law_why "_law_why" = true) (k_law_why : PySem.W.keepIn K (.ref f_law_why) = true)
    {f_law_texts : Addr} {od_law_texts an_law_texts : Option Addr} {sl_law_texts : Array (Option Value)} {oc_law_texts kV_law_texts dc_law_texts pm_law_texts cd_law_texts ct_law_texts : Value} (a_law_texts : PySem.W.nsIn K mainGlobals "_law_texts" = some (some (.ref f_law_texts))) (l_law_texts : K.lookup f_law_texts = some ⟨oc_law_texts, od_law_texts, .func (PySem.W.fnOf "_law_texts" "_law_texts" (defArgs s_law_texts) (defBody s_law_texts) (defScope s_law_texts) .none kV_law_texts dc_law_texts pm_law_texts an_law_texts cd_law_texts ct_law_texts), sl_law_texts⟩) (c_law_texts : PySem.W.codeIn K cd_law_texts "_law_texts" = true) (k_law_texts : PySem.W.keepIn K (.ref f_law_texts) = true)
    {f_law_why_of : Addr} {od_law_why_of an_law_why_of : Option Addr} {sl_law_why_of : Array (Option Value)} {oc_law_why_of kV_law_why_of dc_law_why_of pm_law_why_of cd_law_why_of ct_law_why_of : Value} (a_law_why_of : PySem.W.nsIn K mainGlobals "_law_why_of" = some (some (.ref f_law_why_of))) (l_law_why_of : K.lookup f_law_why_of = some ⟨oc_law_why_of, od_law_why_of, .func (PySem.W.fnOf "_law_why_of" "_law_why_of" (defArgs s_law_why_of) (defBody s_law_why_of) (defScope s_law_why_of) .none kV_law_why_of dc_law_why_of pm_law_why_of an_law_why_of cd_law_why_of ct_law_why_of), sl_law_why_of⟩) (c_law_why_of : PySem.W.codeIn K cd_law_why_of "_law_why_of" = true) (k_law_why_of : PySem.W.keepIn K (.ref f_law_why_of) = true)
    {f_law_picture : Addr} {od_law_picture an_law_picture : Option Addr} {sl_law_picture : Array (Option Value)} {oc_law_picture kV_law_picture dc_law_picture pm_law_picture cd_law_picture ct_law_picture : Value} (a_law_picture : PySem.W.nsIn K mainGlobals "_law_picture" = some (some (.ref f_law_picture))) (l_law_picture : K.lookup f_law_picture = some ⟨oc_law_picture, od_law_picture, .func (PySem.W.fnOf "_law_picture" "_law_picture" (defArgs s_law_picture) (defBody s_law_picture) (defScope s_law_picture) .none kV_law_picture dc_law_picture pm_law_picture an_law_picture cd_law_picture ct_law_picture), sl_law_picture⟩) (c_law_picture : PySem.W.codeIn K cd_law_picture "_law_picture" = true) (k_law_picture : PySem.W.keepIn K (.ref f_law_picture) = true)
    {f_law_split : Addr} {od_law_split an_law_split : Option Addr} {sl_law_split : Array (Option Value)} {oc_law_split kV_law_split dc_law_split pm_law_split cd_law_split ct_law_split : Value} (a_law_split : PySem.W.nsIn K mainGlobals "_law_split" = some (some (.ref f_law_split))) (l_law_split : K.lookup f_law_split = some ⟨oc_law_split, od_law_split, .func (PySem.W.fnOf "_law_split" "_law_split" (defArgs s_law_split) (defBody s_law_split) (defScope s_law_split) .none kV_law_split dc_law_split pm_law_split an_law_split cd_law_split ct_law_split), sl_law_split⟩) (c_law_split : PySem.W.codeIn K cd_law_split "_law_split" = true) (k_law_split : PySem.W.keepIn K (.ref f_law_split) = true)
    {f_law_spoilt : Addr} {od_law_spoilt an_law_spoilt : Option Addr} {sl_law_spoilt : Array (Option Value)} {oc_law_spoilt kV_law_spoilt dc_law_spoilt pm_law_spoilt cd_law_spoilt ct_law_spoilt : Value} (a_law_spoilt : PySem.W.nsIn K mainGlobals "_law_spoilt" = some (some (.ref f_law_spoilt))) (l_law_spoilt : K.lookup f_law_spoilt = some ⟨oc_law_spoilt, od_law_spoilt, .func (PySem.W.fnOf "_law_spoilt" "_law_spoilt" (defArgs s_law_spoilt) (defBody s_law_spoilt) (defScope s_law_spoilt) .none kV_law_spoilt dc_law_spoilt pm_law_spoilt an_law_spoilt cd_law_spoilt ct_law_spoilt), sl_law_spoilt⟩) (c_law_spoilt : PySem.W.codeIn K cd_law_spoilt "_law_spoilt" = true) (k_law_spoilt : PySem.W.keepIn K (.ref f_law_spoilt) = true)
    {f_law_read : Addr} {od_law_read an_law_read : Option Addr} {sl_law_read : Array (Option Value)} {oc_law_read kV_law_read dc_law_read pm_law_read cd_law_read ct_law_read : Value} (a_law_read : PySem.W.nsIn K mainGlobals "_law_read" = some (some (.ref f_law_read))) (l_law_read : K.lookup f_law_read = some ⟨oc_law_read, od_law_read, .func (PySem.W.fnOf "_law_read" "_law_read" (defArgs s_law_read) (defBody s_law_read) (defScope s_law_read) .none kV_law_read dc_law_read pm_law_read an_law_read cd_law_read ct_law_read), sl_law_read⟩) (c_law_read : PySem.W.codeIn K cd_law_read "_law_read" = true) (k_law_read : PySem.W.keepIn K (.ref f_law_read) = true)
    : Txt K mg := ⟨PySem.W.mg_none_of X G zb_ValueError,
    PySem.W.mg_none_of X G zb_all,
    PySem.W.mg_none_of X G zb_bool,
    PySem.W.mg_none_of X G zb_enumerate,
    PySem.W.mg_none_of X G zb_int,
    PySem.W.mg_none_of X G zb_isinstance,
    PySem.W.mg_none_of X G zb_len,
    PySem.W.mg_none_of X G zb_list,
    PySem.W.mg_none_of X G zb_range,
    PySem.W.mg_none_of X G zb_str,
    PySem.W.mg_none_of X G zb_tuple,
    ⟨_, PySem.W.mg_of X G zc_MOST⟩,
    ⟨C_QuiltError, ⟨xa_QuiltError, xk_QuiltError, xt_QuiltError, xg_QuiltError, xh_QuiltError, xs_QuiltError, xd_QuiltError, xc_QuiltError, xn, xq, xm_QuiltError⟩, PySem.W.mg_of X G xa_QuiltError⟩,
    ⟨C_NoPicture, ⟨xa_NoPicture, xk_NoPicture, xt_NoPicture, xg_NoPicture, xh_NoPicture, xs_NoPicture, xd_NoPicture, xc_NoPicture, xn, xq, xm_NoPicture⟩, PySem.W.mg_of X G xa_NoPicture⟩,
    ⟨C_NoFit, ⟨xa_NoFit, xk_NoFit, xt_NoFit, xg_NoFit, xh_NoFit, xs_NoFit, xd_NoFit, xc_NoFit, xn, xq, xm_NoFit⟩, PySem.W.mg_of X G xa_NoFit⟩,
    ⟨C_NoRule, ⟨xa_NoRule, xk_NoRule, xt_NoRule, xg_NoRule, xh_NoRule, xs_NoRule, xd_NoRule, xc_NoRule, xn, xq, xm_NoRule⟩, PySem.W.mg_of X G xa_NoRule⟩,
    ⟨C_NoGrammar, ⟨xa_NoGrammar, xk_NoGrammar, xt_NoGrammar, xg_NoGrammar, xh_NoGrammar, xs_NoGrammar, xd_NoGrammar, xc_NoGrammar, xn, xq, xm_NoGrammar⟩, PySem.W.mg_of X G xa_NoGrammar⟩,
    ⟨C_NoText, ⟨xa_NoText, xk_NoText, xt_NoText, xg_NoText, xh_NoText, xs_NoText, xd_NoText, xc_NoText, xn, xq, xm_NoText⟩, PySem.W.mg_of X G xa_NoText⟩,
    ⟨C_NoTree, ⟨xa_NoTree, xk_NoTree, xt_NoTree, xg_NoTree, xh_NoTree, xs_NoTree, xd_NoTree, xc_NoTree, xn, xq, xm_NoTree⟩, PySem.W.mg_of X G xa_NoTree⟩,
    ⟨C_NoWord, ⟨xa_NoWord, xk_NoWord, xt_NoWord, xg_NoWord, xh_NoWord, xs_NoWord, xd_NoWord, xc_NoWord, xn, xq, xm_NoWord⟩, PySem.W.mg_of X G xa_NoWord⟩,
    ⟨C_NoName, ⟨xa_NoName, xk_NoName, xt_NoName, xg_NoName, xh_NoName, xs_NoName, xd_NoName, xc_NoName, xn, xq, xm_NoName⟩, PySem.W.mg_of X G xa_NoName⟩,
    ⟨C_TooMany, ⟨xa_TooMany, xk_TooMany, xt_TooMany, xg_TooMany, xh_TooMany, xs_TooMany, xd_TooMany, xc_TooMany, xn, xq, xm_TooMany⟩, PySem.W.mg_of X G xa_TooMany⟩,
    ⟨C_NoNumber, ⟨xa_NoNumber, xk_NoNumber, xt_NoNumber, xg_NoNumber, xh_NoNumber, xs_NoNumber, xd_NoNumber, xc_NoNumber, xn, xq, xm_NoNumber⟩, PySem.W.mg_of X G xa_NoNumber⟩,
    ⟨C_NoRow, ⟨xa_NoRow, xk_NoRow, xt_NoRow, xg_NoRow, xh_NoRow, xs_NoRow, xd_NoRow, xc_NoRow, xn, xq, xm_NoRow⟩, PySem.W.mg_of X G xa_NoRow⟩,
    ⟨C_NoPicture, fI_NoPicture, _, xa_NoPicture, ⟨⟨_, _, _, _, _, _, _, _, _, _, _, _, _, _, _, xl_NoPicture, xv_NoPicture⟩, xw_NoPicture, xs_NoPicture, xt_NoPicture, xk_NoPicture⟩, xf_NoPicture, xi_NoPicture, xj_NoPicture, fun_mk xo_NoPicture xu_NoPicture xz_NoPicture, (fun_mk (st := s_NoPicture_init) xo_NoPicture xu_NoPicture xz_NoPicture).binds fun _ _ _ _ _ _ us hl => match us, hl with | [_, _], _ => rfl⟩,
    ⟨C_QuiltError, PySem.W.mg_of X G xa_QuiltError, qs_QuiltError, qr_QuiltError, qf_QuiltError⟩,
    XSub.mk xa_NoPicture xa_NoFit xt_NoFit xs_NoFit xd_NoFit y_NoPicture_NoFit (fun e => absurd e d_NoPicture_NoFit),
    XSub.mk xa_NoPicture xa_NoGrammar xt_NoGrammar xs_NoGrammar xd_NoGrammar y_NoPicture_NoGrammar (fun e => absurd e d_NoPicture_NoGrammar),
    XSub.mk xa_NoPicture xa_NoName xt_NoName xs_NoName xd_NoName y_NoPicture_NoName (fun e => absurd e d_NoPicture_NoName),
    XSub.mk xa_NoPicture xa_NoNumber xt_NoNumber xs_NoNumber xd_NoNumber y_NoPicture_NoNumber (fun e => absurd e d_NoPicture_NoNumber),
    XSub.mk xa_NoPicture xa_NoRow xt_NoRow xs_NoRow xd_NoRow y_NoPicture_NoRow (fun e => absurd e d_NoPicture_NoRow),
    XSub.mk xa_NoPicture xa_NoRule xt_NoRule xs_NoRule xd_NoRule y_NoPicture_NoRule (fun e => absurd e d_NoPicture_NoRule),
    XSub.mk xa_NoPicture xa_NoText xt_NoText xs_NoText xd_NoText y_NoPicture_NoText (fun e => absurd e d_NoPicture_NoText),
    XSub.mk xa_NoPicture xa_NoTree xt_NoTree xs_NoTree xd_NoTree y_NoPicture_NoTree (fun e => absurd e d_NoPicture_NoTree),
    XSub.mk xa_NoPicture xa_NoWord xt_NoWord xs_NoWord xd_NoWord y_NoPicture_NoWord (fun e => absurd e d_NoPicture_NoWord),
    XSub.mk xa_NoPicture xa_TooMany xt_TooMany xs_TooMany xd_TooMany y_NoPicture_TooMany (fun e => absurd e d_NoPicture_TooMany),
    XSub.mk xa_NoPicture xa_QuiltError xt_QuiltError xs_QuiltError xd_QuiltError y_NoPicture_QuiltError (fun _ => rfl),
    XSub.mk xa_NoPicture xa_NoPicture xt_NoPicture xs_NoPicture xd_NoPicture y_NoPicture_NoPicture (fun _ => rfl),
    XSubT.mk (by decide +kernel) xa_NoPicture y_NoPicture_ValueError,
    df_of X G a_checked l_checked c_checked k_checked fun _ _ _ _ _ _ us hl => match us, hl with | [_, _], _ => rfl,
    df_of X G a_shown l_shown c_shown k_shown fun _ _ _ _ _ _ us hl => match us, hl with | [_], _ => rfl,
    df_of X G a_read_picture l_read_picture c_read_picture k_read_picture fun _ _ _ _ _ _ us hl => match us, hl with | [_, _], _ => rfl,
    df_of X G a_law_cell l_law_cell c_law_cell k_law_cell fun _ _ _ _ _ _ us hl => match us, hl with | [_, _], _ => rfl,
    df_of X G a_law_whole l_law_whole c_law_whole k_law_whole fun _ _ _ _ _ _ us hl => match us, hl with | [_], _ => rfl,
    df_of X G a_law_signs l_law_signs c_law_signs k_law_signs fun _ _ _ _ _ _ us hl => match us, hl with | [_, _], _ => rfl,
    df_of X G a_law_row l_law_row c_law_row k_law_row fun _ _ _ _ _ _ us hl => match us, hl with | [_, _, _], _ => rfl,
    df_of X G a_law_any_sign l_law_any_sign c_law_any_sign k_law_any_sign fun _ _ _ _ _ _ us hl => match us, hl with | [_], _ => rfl,
    df_of X G a_law_why l_law_why c_law_why k_law_why fun _ _ _ _ _ _ us hl => match us, hl with | [_, _], _ => rfl,
    df_of X G a_law_texts l_law_texts c_law_texts k_law_texts fun _ _ _ _ _ _ us hl => match us, hl with | [_, _], _ => rfl,
    df_of X G a_law_why_of l_law_why_of c_law_why_of k_law_why_of fun _ _ _ _ _ _ us hl => match us, hl with | [_], _ => rfl,
    df_of X G a_law_picture l_law_picture c_law_picture k_law_picture fun _ _ _ _ _ _ us hl => match us, hl with | [_, _, _, _, _], _ => rfl,
    df_of X G a_law_split l_law_split c_law_split k_law_split fun _ _ _ _ _ _ us hl => match us, hl with | [_], _ => rfl,
    df_of X G a_law_spoilt l_law_spoilt c_law_spoilt k_law_spoilt fun _ _ _ _ _ _ us hl => match us, hl with | [_, _], _ => rfl,
    df_of X G a_law_read l_law_read c_law_read k_law_read fun _ _ _ _ _ _ us hl => match us, hl with | [_, _], _ => rfl⟩
theorem all_mk {l : PySem.W.OpenLaw} {w : World} {K : PySem.W.Frag} {h : Heap} {mg : Str → Option Value} {fa : Addr} (X : K.In h) (G : h.Ns mainGlobals mg) (hfa : mg "law" = some (.ref fa))
    (zb_ValueError : PySem.W.nsIn K mainGlobals "ValueError" = some none)
    (zb_all : PySem.W.nsIn K mainGlobals "all" = some none)
    (zb_bool : PySem.W.nsIn K mainGlobals "bool" = some none)
    (zb_enumerate : PySem.W.nsIn K mainGlobals "enumerate" = some none)
    (zb_int : PySem.W.nsIn K mainGlobals "int" = some none)
    (zb_isinstance : PySem.W.nsIn K mainGlobals "isinstance" = some none)
    (zb_len : PySem.W.nsIn K mainGlobals "len" = some none)
    (zb_list : PySem.W.nsIn K mainGlobals "list" = some none)
    (zb_range : PySem.W.nsIn K mainGlobals "range" = some none)
    (zb_str : PySem.W.nsIn K mainGlobals "str" = some none)
    (zb_tuple : PySem.W.nsIn K mainGlobals "tuple" = some none)
    {t_MOST : Tok} (zc_MOST : PySem.W.nsIn K mainGlobals "MOST" = some (some (.int 6 t_MOST)))
    (xn : PySem.W.specialIn K (.builtin "object.__class__") "__get__" = some (some (.builtin "getset_descriptor.__get__")))
    (xq : PySem.W.takesIn K (.builtin "object.__class__") = some true)
    {C_QuiltError : Addr}
    (xa_QuiltError : PySem.W.nsIn K mainGlobals "QuiltError" = some (some (.ref C_QuiltError)))
    (xk_QuiltError : PySem.W.keepIn K (.ref C_QuiltError) = true)
    (xt_QuiltError : PySem.W.typeIn K (.ref C_QuiltError) = some (.type "type"))
    (xg_QuiltError : PySem.W.findIn K (.ref C_QuiltError) "__getattribute__" = some (some (.builtin "BaseException.__getattribute__")))
    (xh_QuiltError : PySem.W.findIn K (.ref C_QuiltError) "__getattr__" = some none)
    (xs_QuiltError : PySem.W.subIn K (.ref C_QuiltError) (.type "BaseException") = some true)
    (xd_QuiltError : PySem.W.hasDictIn K C_QuiltError = true)
    (xc_QuiltError : PySem.W.findIn K (.ref C_QuiltError) "__class__" = some (some (.builtin "object.__class__")))
    (xm_QuiltError : PySem.W.mroIn K C_QuiltError (.type "object") = some true)
    {C_NoPicture : Addr}
    (xa_NoPicture : PySem.W.nsIn K mainGlobals "NoPicture" = some (some (.ref C_NoPicture)))
    (xk_NoPicture : PySem.W.keepIn K (.ref C_NoPicture) = true)
    (xt_NoPicture : PySem.W.typeIn K (.ref C_NoPicture) = some (.type "type"))
    (xg_NoPicture : PySem.W.findIn K (.ref C_NoPicture) "__getattribute__" = some (some (.builtin "BaseException.__getattribute__")))
    (xh_NoPicture : PySem.W.findIn K (.ref C_NoPicture) "__getattr__" = some none)
    (xs_NoPicture : PySem.W.subIn K (.ref C_NoPicture) (.type "BaseException") = some true)
    (xd_NoPicture : PySem.W.hasDictIn K C_NoPicture = true)
    (xc_NoPicture : PySem.W.findIn K (.ref C_NoPicture) "__class__" = some (some (.builtin "object.__class__")))
    (xm_NoPicture : PySem.W.mroIn K C_NoPicture (.type "object") = some true)
    {C_NoFit : Addr}
    (xa_NoFit : PySem.W.nsIn K mainGlobals "NoFit" = some (some (.ref C_NoFit)))
    (xk_NoFit : PySem.W.keepIn K (.ref C_NoFit) = true)
    (xt_NoFit : PySem.W.typeIn K (.ref C_NoFit) = some (.type "type"))
    (xg_NoFit : PySem.W.findIn K (.ref C_NoFit) "__getattribute__" = some (some (.builtin "BaseException.__getattribute__")))
    (xh_NoFit : PySem.W.findIn K (.ref C_NoFit) "__getattr__" = some none)
    (xs_NoFit : PySem.W.subIn K (.ref C_NoFit) (.type "BaseException") = some true)
    (xd_NoFit : PySem.W.hasDictIn K C_NoFit = true)
    (xc_NoFit : PySem.W.findIn K (.ref C_NoFit) "__class__" = some (some (.builtin "object.__class__")))
    (xm_NoFit : PySem.W.mroIn K C_NoFit (.type "object") = some true)
    {C_NoRule : Addr}
    (xa_NoRule : PySem.W.nsIn K mainGlobals "NoRule" = some (some (.ref C_NoRule)))
    (xk_NoRule : PySem.W.keepIn K (.ref C_NoRule) = true)
    (xt_NoRule : PySem.W.typeIn K (.ref C_NoRule) = some (.type "type"))
    (xg_NoRule : PySem.W.findIn K (.ref C_NoRule) "__getattribute__" = some (some (.builtin "BaseException.__getattribute__")))
    (xh_NoRule : PySem.W.findIn K (.ref C_NoRule) "__getattr__" = some none)
    (xs_NoRule : PySem.W.subIn K (.ref C_NoRule) (.type "BaseException") = some true)
    (xd_NoRule : PySem.W.hasDictIn K C_NoRule = true)
    (xc_NoRule : PySem.W.findIn K (.ref C_NoRule) "__class__" = some (some (.builtin "object.__class__")))
    (xm_NoRule : PySem.W.mroIn K C_NoRule (.type "object") = some true)
    {C_NoGrammar : Addr}
    (xa_NoGrammar : PySem.W.nsIn K mainGlobals "NoGrammar" = some (some (.ref C_NoGrammar)))
    (xk_NoGrammar : PySem.W.keepIn K (.ref C_NoGrammar) = true)
    (xt_NoGrammar : PySem.W.typeIn K (.ref C_NoGrammar) = some (.type "type"))
    (xg_NoGrammar : PySem.W.findIn K (.ref C_NoGrammar) "__getattribute__" = some (some (.builtin "BaseException.__getattribute__")))
    (xh_NoGrammar : PySem.W.findIn K (.ref C_NoGrammar) "__getattr__" = some none)
    (xs_NoGrammar : PySem.W.subIn K (.ref C_NoGrammar) (.type "BaseException") = some true)
    (xd_NoGrammar : PySem.W.hasDictIn K C_NoGrammar = true)
    (xc_NoGrammar : PySem.W.findIn K (.ref C_NoGrammar) "__class__" = some (some (.builtin "object.__class__")))
    (xm_NoGrammar : PySem.W.mroIn K C_NoGrammar (.type "object") = some true)
    {C_NoText : Addr}
    (xa_NoText : PySem.W.nsIn K mainGlobals "NoText" = some (some (.ref C_NoText)))
    (xk_NoText : PySem.W.keepIn K (.ref C_NoText) = true)
    (xt_NoText : PySem.W.typeIn K (.ref C_NoText) = some (.type "type"))
    (xg_NoText : PySem.W.findIn K (.ref C_NoText) "__getattribute__" = some (some (.builtin "BaseException.__getattribute__")))
    (xh_NoText : PySem.W.findIn K (.ref C_NoText) "__getattr__" = some none)
    (xs_NoText : PySem.W.subIn K (.ref C_NoText) (.type "BaseException") = some true)
    (xd_NoText : PySem.W.hasDictIn K C_NoText = true)
    (xc_NoText : PySem.W.findIn K (.ref C_NoText) "__class__" = some (some (.builtin "object.__class__")))
    (xm_NoText : PySem.W.mroIn K C_NoText (.type "object") = some true)
    {C_NoTree : Addr}
    (xa_NoTree : PySem.W.nsIn K mainGlobals "NoTree" = some (some (.ref C_NoTree)))
    (xk_NoTree : PySem.W.keepIn K (.ref C_NoTree) = true)
    (xt_NoTree : PySem.W.typeIn K (.ref C_NoTree) = some (.type "type"))
    (xg_NoTree : PySem.W.findIn K (.ref C_NoTree) "__getattribute__" = some (some (.builtin "BaseException.__getattribute__")))
    (xh_NoTree : PySem.W.findIn K (.ref C_NoTree) "__getattr__" = some none)
    (xs_NoTree : PySem.W.subIn K (.ref C_NoTree) (.type "BaseException") = some true)
    (xd_NoTree : PySem.W.hasDictIn K C_NoTree = true)
    (xc_NoTree : PySem.W.findIn K (.ref C_NoTree) "__class__" = some (some (.builtin "object.__class__")))
    (xm_NoTree : PySem.W.mroIn K C_NoTree (.type "object") = some true)
    {C_NoWord : Addr}
    (xa_NoWord : PySem.W.nsIn K mainGlobals "NoWord" = some (some (.ref C_NoWord)))
    (xk_NoWord : PySem.W.keepIn K (.ref C_NoWord) = true)
    (xt_NoWord : PySem.W.typeIn K (.ref C_NoWord) = some (.type "type"))
    (xg_NoWord : PySem.W.findIn K (.ref C_NoWord) "__getattribute__" = some (some (.builtin "BaseException.__getattribute__")))
    (xh_NoWord : PySem.W.findIn K (.ref C_NoWord) "__getattr__" = some none)
    (xs_NoWord : PySem.W.subIn K (.ref C_NoWord) (.type "BaseException") = some true)
    (xd_NoWord : PySem.W.hasDictIn K C_NoWord = true)
    (xc_NoWord : PySem.W.findIn K (.ref C_NoWord) "__class__" = some (some (.builtin "object.__class__")))
    (xm_NoWord : PySem.W.mroIn K C_NoWord (.type "object") = some true)
    {C_NoName : Addr}
    (xa_NoName : PySem.W.nsIn K mainGlobals "NoName" = some (some (.ref C_NoName)))
    (xk_NoName : PySem.W.keepIn K (.ref C_NoName) = true)
    (xt_NoName : PySem.W.typeIn K (.ref C_NoName) = some (.type "type"))
    (xg_NoName : PySem.W.findIn K (.ref C_NoName) "__getattribute__" = some (some (.builtin "BaseException.__getattribute__")))
    (xh_NoName : PySem.W.findIn K (.ref C_NoName) "__getattr__" = some none)
    (xs_NoName : PySem.W.subIn K (.ref C_NoName) (.type "BaseException") = some true)
    (xd_NoName : PySem.W.hasDictIn K C_NoName = true)
    (xc_NoName : PySem.W.findIn K (.ref C_NoName) "__class__" = some (some (.builtin "object.__class__")))
    (xm_NoName : PySem.W.mroIn K C_NoName (.type "object") = some true)
    {C_TooMany : Addr}
    (xa_TooMany : PySem.W.nsIn K mainGlobals "TooMany" = some (some (.ref C_TooMany)))
    (xk_TooMany : PySem.W.keepIn K (.ref C_TooMany) = true)
    (xt_TooMany : PySem.W.typeIn K (.ref C_TooMany) = some (.type "type"))
    (xg_TooMany : PySem.W.findIn K (.ref C_TooMany) "__getattribute__" = some (some (.builtin "BaseException.__getattribute__")))
    (xh_TooMany : PySem.W.findIn K (.ref C_TooMany) "__getattr__" = some none)
    (xs_TooMany : PySem.W.subIn K (.ref C_TooMany) (.type "BaseException") = some true)
    (xd_TooMany : PySem.W.hasDictIn K C_TooMany = true)
    (xc_TooMany : PySem.W.findIn K (.ref C_TooMany) "__class__" = some (some (.builtin "object.__class__")))
    (xm_TooMany : PySem.W.mroIn K C_TooMany (.type "object") = some true)
    {C_NoNumber : Addr}
    (xa_NoNumber : PySem.W.nsIn K mainGlobals "NoNumber" = some (some (.ref C_NoNumber)))
    (xk_NoNumber : PySem.W.keepIn K (.ref C_NoNumber) = true)
    (xt_NoNumber : PySem.W.typeIn K (.ref C_NoNumber) = some (.type "type"))
    (xg_NoNumber : PySem.W.findIn K (.ref C_NoNumber) "__getattribute__" = some (some (.builtin "BaseException.__getattribute__")))
    (xh_NoNumber : PySem.W.findIn K (.ref C_NoNumber) "__getattr__" = some none)
    (xs_NoNumber : PySem.W.subIn K (.ref C_NoNumber) (.type "BaseException") = some true)
    (xd_NoNumber : PySem.W.hasDictIn K C_NoNumber = true)
    (xc_NoNumber : PySem.W.findIn K (.ref C_NoNumber) "__class__" = some (some (.builtin "object.__class__")))
    (xm_NoNumber : PySem.W.mroIn K C_NoNumber (.type "object") = some true)
    {C_NoRow : Addr}
    (xa_NoRow : PySem.W.nsIn K mainGlobals "NoRow" = some (some (.ref C_NoRow)))
    (xk_NoRow : PySem.W.keepIn K (.ref C_NoRow) = true)
    (xt_NoRow : PySem.W.typeIn K (.ref C_NoRow) = some (.type "type"))
    (xg_NoRow : PySem.W.findIn K (.ref C_NoRow) "__getattribute__" = some (some (.builtin "BaseException.__getattribute__")))
    (xh_NoRow : PySem.W.findIn K (.ref C_NoRow) "__getattr__" = some none)
    (xs_NoRow : PySem.W.subIn K (.ref C_NoRow) (.type "BaseException") = some true)
    (xd_NoRow : PySem.W.hasDictIn K C_NoRow = true)
    (xc_NoRow : PySem.W.findIn K (.ref C_NoRow) "__class__" = some (some (.builtin "object.__class__")))
    (xm_NoRow : PySem.W.mroIn K C_NoRow (.type "object") = some true)
    {nm_NoPicture qn_NoPicture : Str} {NN_NoPicture fI_NoPicture : Addr} {bs_NoPicture bm_NoPicture : List Value} {sn_NoPicture : List Str} {su_NoPicture : List Value} {ab_NoPicture : Bool} {col_NoPicture : _} {dd_NoPicture : Option Addr} {k0_NoPicture k1_NoPicture k2_NoPicture k3_NoPicture k5_NoPicture : Option Value}
    (xl_NoPicture : K.lookup C_NoPicture = some (excClassObj nm_NoPicture qn_NoPicture C_NoPicture NN_NoPicture bs_NoPicture bm_NoPicture true sn_NoPicture su_NoPicture ab_NoPicture col_NoPicture dd_NoPicture k0_NoPicture k1_NoPicture k2_NoPicture k3_NoPicture k5_NoPicture "ValueError.__new__"))
    (xv_NoPicture : PySem.HandSPX.refsVE bm_NoPicture = true)
    (xw_NoPicture : PySem.W.findIn K (.ref C_NoPicture) "__setattr__" = some (some (.builtin "object.__setattr__")))
    (xf_NoPicture : PySem.W.findIn K (.ref C_NoPicture) "why" = some none)
    (xi_NoPicture : PySem.W.findIn K (.ref C_NoPicture) "__init__" = some (some (.ref fI_NoPicture)))
    (xj_NoPicture : PySem.W.typeIn K (.ref fI_NoPicture) = some (.type "function"))
    {od_iNoPicture an_iNoPicture : Option Addr} {sl_iNoPicture : Array (Option Value)} {oc_iNoPicture kV_iNoPicture dc_iNoPicture pm_iNoPicture cd_iNoPicture ct_iNoPicture : Value}
    (xo_NoPicture : K.lookup fI_NoPicture = some ⟨oc_iNoPicture, od_iNoPicture, .func (PySem.W.fnOf "__init__" "NoPicture.__init__" (defArgs s_NoPicture_init) (defBody s_NoPicture_init) (defScope s_NoPicture_init) .none kV_iNoPicture dc_iNoPicture pm_iNoPicture an_iNoPicture cd_iNoPicture ct_iNoPicture), sl_iNoPicture⟩)
    (xu_NoPicture : PySem.W.codeIn K cd_iNoPicture "NoPicture.__init__" = true)
    (xz_NoPicture : PySem.W.keepIn K (.ref fI_NoPicture) = true)
    (qs_QuiltError : PySem.W.specialIn K (.ref C_QuiltError) "__getattribute__" = some (some (.builtin "type.__getattribute__")))
    (qr_QuiltError : PySem.W.readsIn K C_QuiltError (.type "type") = true)
    (qf_QuiltError : PySem.W.findCls K (.ref C_QuiltError) (.type "type") "__init__" = some (.val (.builtin "ValueError.__init__")))
    (y_NoPicture_NoFit : PySem.W.subIn K (.ref C_NoPicture) (.ref C_NoFit) = some false)
    (d_NoPicture_NoFit : ¬ C_NoPicture = C_NoFit)
    (y_NoPicture_NoGrammar : PySem.W.subIn K (.ref C_NoPicture) (.ref C_NoGrammar) = some false)
    (d_NoPicture_NoGrammar : ¬ C_NoPicture = C_NoGrammar)
    (y_NoPicture_NoName : PySem.W.subIn K (.ref C_NoPicture) (.ref C_NoName) = some false)
    (d_NoPicture_NoName : ¬ C_NoPicture = C_NoName)
    (y_NoPicture_NoNumber : PySem.W.subIn K (.ref C_NoPicture) (.ref C_NoNumber) = some false)
    (d_NoPicture_NoNumber : ¬ C_NoPicture = C_NoNumber)
    (y_NoPicture_NoRow : PySem.W.subIn K (.ref C_NoPicture) (.ref C_NoRow) = some false)
    (d_NoPicture_NoRow : ¬ C_NoPicture = C_NoRow)
    (y_NoPicture_NoRule : PySem.W.subIn K (.ref C_NoPicture) (.ref C_NoRule) = some false)
    (d_NoPicture_NoRule : ¬ C_NoPicture = C_NoRule)
    (y_NoPicture_NoText : PySem.W.subIn K (.ref C_NoPicture) (.ref C_NoText) = some false)
    (d_NoPicture_NoText : ¬ C_NoPicture = C_NoText)
    (y_NoPicture_NoTree : PySem.W.subIn K (.ref C_NoPicture) (.ref C_NoTree) = some false)
    (d_NoPicture_NoTree : ¬ C_NoPicture = C_NoTree)
    (y_NoPicture_NoWord : PySem.W.subIn K (.ref C_NoPicture) (.ref C_NoWord) = some false)
    (d_NoPicture_NoWord : ¬ C_NoPicture = C_NoWord)
    (y_NoPicture_TooMany : PySem.W.subIn K (.ref C_NoPicture) (.ref C_TooMany) = some false)
    (d_NoPicture_TooMany : ¬ C_NoPicture = C_TooMany)
    (y_NoPicture_QuiltError : PySem.W.subIn K (.ref C_NoPicture) (.ref C_QuiltError) = some true)
    (y_NoPicture_NoPicture : PySem.W.subIn K (.ref C_NoPicture) (.ref C_NoPicture) = some true)
    (y_NoPicture_ValueError : PySem.W.subIn K (.ref C_NoPicture) (.type "ValueError") = some true)
    {f_checked : Addr} {od_checked an_checked : Option Addr} {sl_checked : Array (Option Value)} {oc_checked kV_checked dc_checked pm_checked cd_checked ct_checked : Value} (a_checked : PySem.W.nsIn K mainGlobals "checked" = some (some (.ref f_checked))) (l_checked : K.lookup f_checked = some ⟨oc_checked, od_checked, .func (PySem.W.fnOf "checked" "checked" (defArgs s_checked) (defBody s_checked) (defScope s_checked) .none kV_checked dc_checked pm_checked an_checked cd_checked ct_checked), sl_checked⟩) (c_checked : PySem.W.codeIn K cd_checked "checked" = true) (k_checked : PySem.W.keepIn K (.ref f_checked) = true)
    {f_shown : Addr} {od_shown an_shown : Option Addr} {sl_shown : Array (Option Value)} {oc_shown kV_shown dc_shown pm_shown cd_shown ct_shown : Value} (a_shown : PySem.W.nsIn K mainGlobals "shown" = some (some (.ref f_shown))) (l_shown : K.lookup f_shown = some ⟨oc_shown, od_shown, .func (PySem.W.fnOf "shown" "shown" (defArgs s_shown) (defBody s_shown) (defScope s_shown) .none kV_shown dc_shown pm_shown an_shown cd_shown ct_shown), sl_shown⟩) (c_shown : PySem.W.codeIn K cd_shown "shown" = true) (k_shown : PySem.W.keepIn K (.ref f_shown) = true)
    {f_read_picture : Addr} {od_read_picture an_read_picture : Option Addr} {sl_read_picture : Array (Option Value)} {oc_read_picture kV_read_picture dc_read_picture pm_read_picture cd_read_picture ct_read_picture : Value} (a_read_picture : PySem.W.nsIn K mainGlobals "read_picture" = some (some (.ref f_read_picture))) (l_read_picture : K.lookup f_read_picture = some ⟨oc_read_picture, od_read_picture, .func (PySem.W.fnOf "read_picture" "read_picture" (defArgs s_read_picture) (defBody s_read_picture) (defScope s_read_picture) .none kV_read_picture dc_read_picture pm_read_picture an_read_picture cd_read_picture ct_read_picture), sl_read_picture⟩) (c_read_picture : PySem.W.codeIn K cd_read_picture "read_picture" = true) (k_read_picture : PySem.W.keepIn K (.ref f_read_picture) = true)
    {f_law_cell : Addr} {od_law_cell an_law_cell : Option Addr} {sl_law_cell : Array (Option Value)} {oc_law_cell kV_law_cell dc_law_cell pm_law_cell cd_law_cell ct_law_cell : Value} (a_law_cell : PySem.W.nsIn K mainGlobals "_law_cell" = some (some (.ref f_law_cell))) (l_law_cell : K.lookup f_law_cell = some ⟨oc_law_cell, od_law_cell, .func (PySem.W.fnOf "_law_cell" "_law_cell" (defArgs s_law_cell) (defBody s_law_cell) (defScope s_law_cell) .none kV_law_cell dc_law_cell pm_law_cell an_law_cell cd_law_cell ct_law_cell), sl_law_cell⟩) (c_law_cell : PySem.W.codeIn K cd_law_cell "_law_cell" = true) (k_law_cell : PySem.W.keepIn K (.ref f_law_cell) = true)
    {f_law_whole : Addr} {od_law_whole an_law_whole : Option Addr} {sl_law_whole : Array (Option Value)} {oc_law_whole kV_law_whole dc_law_whole pm_law_whole cd_law_whole ct_law_whole : Value} (a_law_whole : PySem.W.nsIn K mainGlobals "_law_whole" = some (some (.ref f_law_whole))) (l_law_whole : K.lookup f_law_whole = some ⟨oc_law_whole, od_law_whole, .func (PySem.W.fnOf "_law_whole" "_law_whole" (defArgs s_law_whole) (defBody s_law_whole) (defScope s_law_whole) .none kV_law_whole dc_law_whole pm_law_whole an_law_whole cd_law_whole ct_law_whole), sl_law_whole⟩) (c_law_whole : PySem.W.codeIn K cd_law_whole "_law_whole" = true) (k_law_whole : PySem.W.keepIn K (.ref f_law_whole) = true)
    {f_law_signs : Addr} {od_law_signs an_law_signs : Option Addr} {sl_law_signs : Array (Option Value)} {oc_law_signs kV_law_signs dc_law_signs pm_law_signs cd_law_signs ct_law_signs : Value} (a_law_signs : PySem.W.nsIn K mainGlobals "_law_signs" = some (some (.ref f_law_signs))) (l_law_signs : K.lookup f_law_signs = some ⟨oc_law_signs, od_law_signs, .func (PySem.W.fnOf "_law_signs" "_law_signs" (defArgs s_law_signs) (defBody s_law_signs) (defScope s_law_signs) .none kV_law_signs dc_law_signs pm_law_signs an_law_signs cd_law_signs ct_law_signs), sl_law_signs⟩) (c_law_signs : PySem.W.codeIn K cd_law_signs "_law_signs" = true) (k_law_signs : PySem.W.keepIn K (.ref f_law_signs) = true)
    {f_law_row : Addr} {od_law_row an_law_row : Option Addr} {sl_law_row : Array (Option Value)} {oc_law_row kV_law_row dc_law_row pm_law_row cd_law_row ct_law_row : Value} (a_law_row : PySem.W.nsIn K mainGlobals "_law_row" = some (some (.ref f_law_row))) (l_law_row : K.lookup f_law_row = some ⟨oc_law_row, od_law_row, .func (PySem.W.fnOf "_law_row" "_law_row" (defArgs s_law_row) (defBody s_law_row) (defScope s_law_row) .none kV_law_row dc_law_row pm_law_row an_law_row cd_law_row ct_law_row), sl_law_row⟩) (c_law_row : PySem.W.codeIn K cd_law_row "_law_row" = true) (k_law_row : PySem.W.keepIn K (.ref f_law_row) = true)
    {f_law_any_sign : Addr} {od_law_any_sign an_law_any_sign : Option Addr} {sl_law_any_sign : Array (Option Value)} {oc_law_any_sign kV_law_any_sign dc_law_any_sign pm_law_any_sign cd_law_any_sign ct_law_any_sign : Value} (a_law_any_sign : PySem.W.nsIn K mainGlobals "_law_any_sign" = some (some (.ref f_law_any_sign))) (l_law_any_sign : K.lookup f_law_any_sign = some ⟨oc_law_any_sign, od_law_any_sign, .func (PySem.W.fnOf "_law_any_sign" "_law_any_sign" (defArgs s_law_any_sign) (defBody s_law_any_sign) (defScope s_law_any_sign) .none kV_law_any_sign dc_law_any_sign pm_law_any_sign an_law_any_sign cd_law_any_sign ct_law_any_sign), sl_law_any_sign⟩) (c_law_any_sign : PySem.W.codeIn K cd_law_any_sign "_law_any_sign" = true) (k_law_any_sign : PySem.W.keepIn K (.ref f_law_any_sign) = true)
    {f_law_why : Addr} {od_law_why an_law_why : Option Addr} {sl_law_why : Array (Option Value)} {oc_law_why kV_law_why dc_law_why pm_law_why cd_law_why ct_law_why : Value} (a_law_why : PySem.W.nsIn K mainGlobals "_law_why" = some (some (.ref f_law_why))) (l_law_why : K.lookup f_law_why = some ⟨oc_law_why, od_law_why, .func (PySem.W.fnOf "_law_why" "_law_why" (defArgs s_law_why) (defBody s_law_why) (defScope s_law_why) .none kV_law_why dc_law_why pm_law_why an_law_why cd_law_why ct_law_why), sl_law_why⟩) (c_law_why : PySem.W.codeIn K cd_law_why "_law_why" = true) (k_law_why : PySem.W.keepIn K (.ref f_law_why) = true)
    {f_law_texts : Addr} {od_law_texts an_law_texts : Option Addr} {sl_law_texts : Array (Option Value)} {oc_law_texts kV_law_texts dc_law_texts pm_law_texts cd_law_texts ct_law_texts : Value} (a_law_texts : PySem.W.nsIn K mainGlobals "_law_texts" = some (some (.ref f_law_texts))) (l_law_texts : K.lookup f_law_texts = some ⟨oc_law_texts, od_law_texts, .func (PySem.W.fnOf "_law_texts" "_law_texts" (defArgs s_law_texts) (defBody s_law_texts) (defScope s_law_texts) .none kV_law_texts dc_law_texts pm_law_texts an_law_texts cd_law_texts ct_law_texts), sl_law_texts⟩) (c_law_texts : PySem.W.codeIn K cd_law_texts "_law_texts" = true) (k_law_texts : PySem.W.keepIn K (.ref f_law_texts) = true)
    {f_law_why_of : Addr} {od_law_why_of an_law_why_of : Option Addr} {sl_law_why_of : Array (Option Value)} {oc_law_why_of kV_law_why_of dc_law_why_of pm_law_why_of cd_law_why_of ct_law_why_of : Value} (a_law_why_of : PySem.W.nsIn K mainGlobals "_law_why_of" = some (some (.ref f_law_why_of))) (l_law_why_of : K.lookup f_law_why_of = some ⟨oc_law_why_of, od_law_why_of, .func (PySem.W.fnOf "_law_why_of" "_law_why_of" (defArgs s_law_why_of) (defBody s_law_why_of) (defScope s_law_why_of) .none kV_law_why_of dc_law_why_of pm_law_why_of an_law_why_of cd_law_why_of ct_law_why_of), sl_law_why_of⟩) (c_law_why_of : PySem.W.codeIn K cd_law_why_of "_law_why_of" = true) (k_law_why_of : PySem.W.keepIn K (.ref f_law_why_of) = true)
    {f_law_picture : Addr} {od_law_picture an_law_picture : Option Addr} {sl_law_picture : Array (Option Value)} {oc_law_picture kV_law_picture dc_law_picture pm_law_picture cd_law_picture ct_law_picture : Value} (a_law_picture : PySem.W.nsIn K mainGlobals "_law_picture" = some (some (.ref f_law_picture))) (l_law_picture : K.lookup f_law_picture = some ⟨oc_law_picture, od_law_picture, .func (PySem.W.fnOf "_law_picture" "_law_picture" (defArgs s_law_picture) (defBody s_law_picture) (defScope s_law_picture) .none kV_law_picture dc_law_picture pm_law_picture an_law_picture cd_law_picture ct_law_picture), sl_law_picture⟩) (c_law_picture : PySem.W.codeIn K cd_law_picture "_law_picture" = true) (k_law_picture : PySem.W.keepIn K (.ref f_law_picture) = true)
    {f_law_split : Addr} {od_law_split an_law_split : Option Addr} {sl_law_split : Array (Option Value)} {oc_law_split kV_law_split dc_law_split pm_law_split cd_law_split ct_law_split : Value} (a_law_split : PySem.W.nsIn K mainGlobals "_law_split" = some (some (.ref f_law_split))) (l_law_split : K.lookup f_law_split = some ⟨oc_law_split, od_law_split, .func (PySem.W.fnOf "_law_split" "_law_split" (defArgs s_law_split) (defBody s_law_split) (defScope s_law_split) .none kV_law_split dc_law_split pm_law_split an_law_split cd_law_split ct_law_split), sl_law_split⟩) (c_law_split : PySem.W.codeIn K cd_law_split "_law_split" = true) (k_law_split : PySem.W.keepIn K (.ref f_law_split) = true)
    {f_law_spoilt : Addr} {od_law_spoilt an_law_spoilt : Option Addr} {sl_law_spoilt : Array (Option Value)} {oc_law_spoilt kV_law_spoilt dc_law_spoilt pm_law_spoilt cd_law_spoilt ct_law_spoilt : Value} (a_law_spoilt : PySem.W.nsIn K mainGlobals "_law_spoilt" = some (some (.ref f_law_spoilt))) (l_law_spoilt : K.lookup f_law_spoilt = some ⟨oc_law_spoilt, od_law_spoilt, .func (PySem.W.fnOf "_law_spoilt" "_law_spoilt" (defArgs s_law_spoilt) (defBody s_law_spoilt) (defScope s_law_spoilt) .none kV_law_spoilt dc_law_spoilt pm_law_spoilt an_law_spoilt cd_law_spoilt ct_law_spoilt), sl_law_spoilt⟩) (c_law_spoilt : PySem.W.codeIn K cd_law_spoilt "_law_spoilt" = true) (k_law_spoilt : PySem.W.keepIn K (.ref f_law_spoilt) = true)
    {f_law_read : Addr} {od_law_read an_law_read : Option Addr} {sl_law_read : Array (Option Value)} {oc_law_read kV_law_read dc_law_read pm_law_read cd_law_read ct_law_read : Value} (a_law_read : PySem.W.nsIn K mainGlobals "_law_read" = some (some (.ref f_law_read))) (l_law_read : K.lookup f_law_read = some ⟨oc_law_read, od_law_read, .func (PySem.W.fnOf "_law_read" "_law_read" (defArgs s_law_read) (defBody s_law_read) (defScope s_law_read) .none kV_law_read dc_law_read pm_law_read an_law_read cd_law_read ct_law_read), sl_law_read⟩) (c_law_read : PySem.W.codeIn K cd_law_read "_law_read" = true) (k_law_read : PySem.W.keepIn K (.ref f_law_read) = true)
    {f_law : Addr} {od_law an_law : Option Addr} {sl_law : Array (Option Value)} {oc_law kV_law dc_law pm_law cd_law ct_law : Value} (a_law : PySem.W.nsIn K mainGlobals "law" = some (some (.ref f_law))) (l_law : K.lookup f_law = some ⟨oc_law, od_law, .func (PySem.W.fnOf "law" "law" (defArgs s_law) (defBody s_law) (defScope s_law) .none kV_law dc_law pm_law an_law cd_law ct_law), sl_law⟩) (c_law : PySem.W.codeIn K cd_law "law" = true) (k_law : PySem.W.keepIn K (.ref f_law) = true) :
    ∃ fd : FuncData, (∀ (s : Shared) (v : Value), BindsTo s fd ⟨[v], []⟩ [("_law_script", v)]) ∧ ∀ base : Heap, K.In base → base.Ns mainGlobals mg → FnOk l.prog w K mg base (L2.CX l.prog w) 21 fa fd ["_law_script"] (spOf K lawS) := by
  have e := hfa.symm.trans (PySem.W.mg_of X G a_law)
  cases e
  have T : Txt K mg := txt_mk X G zb_ValueError zb_all zb_bool zb_enumerate zb_int zb_isinstance zb_len zb_list zb_range zb_str zb_tuple zc_MOST xn xq xa_QuiltError xk_QuiltError xt_QuiltError xg_QuiltError xh_QuiltError xs_QuiltError xd_QuiltError xc_QuiltError xm_QuiltError xa_NoPicture xk_NoPicture xt_NoPicture xg_NoPicture xh_NoPicture xs_NoPicture xd_NoPicture xc_NoPicture xm_NoPicture xa_NoFit xk_NoFit xt_NoFit xg_NoFit xh_NoFit xs_NoFit xd_NoFit xc_NoFit xm_NoFit xa_NoRule xk_NoRule xt_NoRule xg_NoRule xh_NoRule xs_NoRule xd_NoRule xc_NoRule xm_NoRule xa_NoGrammar xk_NoGrammar xt_NoGrammar xg_NoGrammar xh_NoGrammar xs_NoGrammar xd_NoGrammar xc_NoGrammar xm_NoGrammar xa_NoText xk_NoText xt_NoText xg_NoText xh_NoText xs_NoText xd_NoText xc_NoText xm_NoText xa_NoTree xk_NoTree xt_NoTree xg_NoTree xh_NoTree xs_NoTree xd_NoTree xc_NoTree xm_NoTree xa_NoWord xk_NoWord xt_NoWord xg_NoWord xh_NoWord xs_NoWord xd_NoWord xc_NoWord xm_NoWord xa_NoName xk_NoName xt_NoName xg_NoName xh_NoName xs_NoName xd_NoName xc_NoName xm_NoName xa_TooMany xk_TooMany xt_TooMany xg_TooMany xh_TooMany xs_TooMany xd_TooMany xc_TooMany xm_TooMany xa_NoNumber xk_NoNumber xt_NoNumber xg_NoNumber xh_NoNumber xs_NoNumber xd_NoNumber xc_NoNumber xm_NoNumber xa_NoRow xk_NoRow xt_NoRow xg_NoRow xh_NoRow xs_NoRow xd_NoRow xc_NoRow xm_NoRow xl_NoPicture xv_NoPicture xw_NoPicture xf_NoPicture xi_NoPicture xj_NoPicture xo_NoPicture xu_NoPicture xz_NoPicture qs_QuiltError qr_QuiltError qf_QuiltError y_NoPicture_NoFit d_NoPicture_NoFit y_NoPicture_NoGrammar d_NoPicture_NoGrammar y_NoPicture_NoName d_NoPicture_NoName y_NoPicture_NoNumber d_NoPicture_NoNumber y_NoPicture_NoRow d_NoPicture_NoRow y_NoPicture_NoRule d_NoPicture_NoRule y_NoPicture_NoText d_NoPicture_NoText y_NoPicture_NoTree d_NoPicture_NoTree y_NoPicture_NoWord d_NoPicture_NoWord y_NoPicture_TooMany d_NoPicture_TooMany y_NoPicture_QuiltError y_NoPicture_NoPicture y_NoPicture_ValueError a_checked l_checked c_checked k_checked a_shown l_shown c_shown k_shown a_read_picture l_read_picture c_read_picture k_read_picture a_law_cell l_law_cell c_law_cell k_law_cell a_law_whole l_law_whole c_law_whole k_law_whole a_law_signs l_law_signs c_law_signs k_law_signs a_law_row l_law_row c_law_row k_law_row a_law_any_sign l_law_any_sign c_law_any_sign k_law_any_sign a_law_why l_law_why c_law_why k_law_why a_law_texts l_law_texts c_law_texts k_law_texts a_law_why_of l_law_why_of c_law_why_of k_law_why_of a_law_picture l_law_picture c_law_picture k_law_picture a_law_split l_law_split c_law_split k_law_split a_law_spoilt l_law_spoilt c_law_spoilt k_law_spoilt a_law_read l_law_read c_law_read k_law_read
  exact ⟨PySem.W.fnOf "law" "law" (defArgs s_law) (defBody s_law) (defScope s_law) .none kV_law dc_law pm_law an_law cd_law ct_law, fun s v => .of_eq rfl, fun base _ _ => law_fn (fun_mk l_law c_law k_law) sc_law (body_law T)⟩
end Law
open PySem PySem.W PyProof.Rows
set_option maxRecDepth 100000 in
set_option maxHeartbeats 0 in
theorem PySem.Challenge.cw_quiltlaw_k02_pictures_as_texts_holds : PySem.Challenge.rw_quiltlaw_k02_pictures_as_texts.Holds := by
  w_on; o_law; k_head; (case hw => w_witness2)
  k_fill
  refine L2.walk_of (l := PySem.Challenge.rw_quiltlaw_k02_pictures_as_texts) (n := 63) (k := 21) (x := "_law_script") (CX := fun w => L2.CX PySem.Challenge.rw_quiltlaw_k02_pictures_as_texts.prog w) (sp := fun w => Tw.spOf _ Tw.lawS) rfl (by decide) rfl ⟨rfl, by decide, by decide⟩ (fun w h Y => PySem.W.kIn_of Y) ?F (fun _ H a ns hl _ hS => Tw.law_sp _ H a ns hl hS) (fun w H s e s' => Tw.hCX0 _ w H s e s')
  case F =>
    intro w mg fa h KX G hmg
    refine' Law.all_mk KX G hmg ?zb_ValueError ?zb_all ?zb_bool ?zb_enumerate ?zb_int ?zb_isinstance ?zb_len ?zb_list ?zb_range ?zb_str ?zb_tuple ?zc_MOST ?xn ?xq ?xa_QuiltError ?xk_QuiltError ?xt_QuiltError ?xg_QuiltError ?xh_QuiltError ?xs_QuiltError ?xd_QuiltError ?xc_QuiltError ?xm_QuiltError ?xa_NoPicture ?xk_NoPicture ?xt_NoPicture ?xg_NoPicture ?xh_NoPicture ?xs_NoPicture ?xd_NoPicture ?xc_NoPicture ?xm_NoPicture ?xa_NoFit ?xk_NoFit ?xt_NoFit ?xg_NoFit ?xh_NoFit ?xs_NoFit ?xd_NoFit ?xc_NoFit ?xm_NoFit ?xa_NoRule ?xk_NoRule ?xt_NoRule ?xg_NoRule ?xh_NoRule ?xs_NoRule ?xd_NoRule ?xc_NoRule ?xm_NoRule ?xa_NoGrammar ?xk_NoGrammar ?xt_NoGrammar ?xg_NoGrammar ?xh_NoGrammar ?xs_NoGrammar ?xd_NoGrammar ?xc_NoGrammar ?xm_NoGrammar ?xa_NoText ?xk_NoText ?xt_NoText ?xg_NoText ?xh_NoText ?xs_NoText ?xd_NoText ?xc_NoText ?xm_NoText ?xa_NoTree ?xk_NoTree ?xt_NoTree ?xg_NoTree ?xh_NoTree ?xs_NoTree ?xd_NoTree ?xc_NoTree ?xm_NoTree ?xa_NoWord ?xk_NoWord ?xt_NoWord ?xg_NoWord ?xh_NoWord ?xs_NoWord ?xd_NoWord ?xc_NoWord ?xm_NoWord ?xa_NoName ?xk_NoName ?xt_NoName ?xg_NoName ?xh_NoName ?xs_NoName ?xd_NoName ?xc_NoName ?xm_NoName ?xa_TooMany ?xk_TooMany ?xt_TooMany ?xg_TooMany ?xh_TooMany ?xs_TooMany ?xd_TooMany ?xc_TooMany ?xm_TooMany ?xa_NoNumber ?xk_NoNumber ?xt_NoNumber ?xg_NoNumber ?xh_NoNumber ?xs_NoNumber ?xd_NoNumber ?xc_NoNumber ?xm_NoNumber ?xa_NoRow ?xk_NoRow ?xt_NoRow ?xg_NoRow ?xh_NoRow ?xs_NoRow ?xd_NoRow ?xc_NoRow ?xm_NoRow ?xl_NoPicture ?xv_NoPicture ?xw_NoPicture ?xf_NoPicture ?xi_NoPicture ?xj_NoPicture ?xo_NoPicture ?xu_NoPicture ?xz_NoPicture ?qs_QuiltError ?qr_QuiltError ?qf_QuiltError ?y_NoPicture_NoFit ?d_NoPicture_NoFit ?y_NoPicture_NoGrammar ?d_NoPicture_NoGrammar ?y_NoPicture_NoName ?d_NoPicture_NoName ?y_NoPicture_NoNumber ?d_NoPicture_NoNumber ?y_NoPicture_NoRow ?d_NoPicture_NoRow ?y_NoPicture_NoRule ?d_NoPicture_NoRule ?y_NoPicture_NoText ?d_NoPicture_NoText ?y_NoPicture_NoTree ?d_NoPicture_NoTree ?y_NoPicture_NoWord ?d_NoPicture_NoWord ?y_NoPicture_TooMany ?d_NoPicture_TooMany ?y_NoPicture_QuiltError ?y_NoPicture_NoPicture ?y_NoPicture_ValueError ?a_checked ?l_checked ?c_checked ?k_checked ?a_shown ?l_shown ?c_shown ?k_shown ?a_read_picture ?l_read_picture ?c_read_picture ?k_read_picture ?a_law_cell ?l_law_cell ?c_law_cell ?k_law_cell ?a_law_whole ?l_law_whole ?c_law_whole ?k_law_whole ?a_law_signs ?l_law_signs ?c_law_signs ?k_law_signs ?a_law_row ?l_law_row ?c_law_row ?k_law_row ?a_law_any_sign ?l_law_any_sign ?c_law_any_sign ?k_law_any_sign ?a_law_why ?l_law_why ?c_law_why ?k_law_why ?a_law_texts ?l_law_texts ?c_law_texts ?k_law_texts ?a_law_why_of ?l_law_why_of ?c_law_why_of ?k_law_why_of ?a_law_picture ?l_law_picture ?c_law_picture ?k_law_picture ?a_law_split ?l_law_split ?c_law_split ?k_law_split ?a_law_spoilt ?l_law_spoilt ?c_law_spoilt ?k_law_spoilt ?a_law_read ?l_law_read ?c_law_read ?k_law_read ?a_law ?l_law ?c_law ?k_law
    (case zb_ValueError => k_is)
    (case zb_all => k_is)
    (case zb_bool => k_is)
    (case zb_enumerate => k_is)
    (case zb_int => k_is)
    (case zb_isinstance => k_is)
    (case zb_len => k_is)
    (case zb_list => k_is)
    (case zb_range => k_is)
    (case zb_str => k_is)
    (case zb_tuple => k_is)
    (case zc_MOST => k_is)
    (case xn => k_is)
    (case xq => k_is)
    (case xa_QuiltError => k_is)
    (case xk_QuiltError => k_is)
    (case xt_QuiltError => k_is)
    (case xg_QuiltError => k_is)
    (case xh_QuiltError => k_is)
    (case xs_QuiltError => k_is)
    (case xd_QuiltError => k_is)
    (case xc_QuiltError => k_is)
    (case xm_QuiltError => k_is)
    (case xa_NoPicture => k_is)
    (case xk_NoPicture => k_is)
    (case xt_NoPicture => k_is)
    (case xg_NoPicture => k_is)
    (case xh_NoPicture => k_is)
    (case xs_NoPicture => k_is)
    (case xd_NoPicture => k_is)
    (case xc_NoPicture => k_is)
    (case xm_NoPicture => k_is)
    (case xa_NoFit => k_is)
    (case xk_NoFit => k_is)
    (case xt_NoFit => k_is)
    (case xg_NoFit => k_is)
    (case xh_NoFit => k_is)
    (case xs_NoFit => k_is)
    (case xd_NoFit => k_is)
    (case xc_NoFit => k_is)
    (case xm_NoFit => k_is)
    (case xa_NoRule => k_is)
    (case xk_NoRule => k_is)
    (case xt_NoRule => k_is)
    (case xg_NoRule => k_is)
    (case xh_NoRule => k_is)
    (case xs_NoRule => k_is)
    (case xd_NoRule => k_is)
    (case xc_NoRule => k_is)
    (case xm_NoRule => k_is)
    (case xa_NoGrammar => k_is)
    (case xk_NoGrammar => k_is)
    (case xt_NoGrammar => k_is)
    (case xg_NoGrammar => k_is)
    (case xh_NoGrammar => k_is)
    (case xs_NoGrammar => k_is)
    (case xd_NoGrammar => k_is)
    (case xc_NoGrammar => k_is)
    (case xm_NoGrammar => k_is)
    (case xa_NoText => k_is)
    (case xk_NoText => k_is)
    (case xt_NoText => k_is)
    (case xg_NoText => k_is)
    (case xh_NoText => k_is)
    (case xs_NoText => k_is)
    (case xd_NoText => k_is)
    (case xc_NoText => k_is)
    (case xm_NoText => k_is)
    (case xa_NoTree => k_is)
    (case xk_NoTree => k_is)
    (case xt_NoTree => k_is)
    (case xg_NoTree => k_is)
    (case xh_NoTree => k_is)
    (case xs_NoTree => k_is)
    (case xd_NoTree => k_is)
    (case xc_NoTree => k_is)
    (case xm_NoTree => k_is)
    (case xa_NoWord => k_is)
    (case xk_NoWord => k_is)
    (case xt_NoWord => k_is)
    (case xg_NoWord => k_is)
    (case xh_NoWord => k_is)
    (case xs_NoWord => k_is)
    (case xd_NoWord => k_is)
    (case xc_NoWord => k_is)
    (case xm_NoWord => k_is)
    (case xa_NoName => k_is)
    (case xk_NoName => k_is)
    (case xt_NoName => k_is)
    (case xg_NoName => k_is)
    (case xh_NoName => k_is)
    (case xs_NoName => k_is)
    (case xd_NoName => k_is)
    (case xc_NoName => k_is)
    (case xm_NoName => k_is)
    (case xa_TooMany => k_is)
    (case xk_TooMany => k_is)
    (case xt_TooMany => k_is)
    (case xg_TooMany => k_is)
    (case xh_TooMany => k_is)
    (case xs_TooMany => k_is)
    (case xd_TooMany => k_is)
    (case xc_TooMany => k_is)
    (case xm_TooMany => k_is)
    (case xa_NoNumber => k_is)
    (case xk_NoNumber => k_is)
    (case xt_NoNumber => k_is)
    (case xg_NoNumber => k_is)
    (case xh_NoNumber => k_is)
    (case xs_NoNumber => k_is)
    (case xd_NoNumber => k_is)
    (case xc_NoNumber => k_is)
    (case xm_NoNumber => k_is)
    (case xa_NoRow => k_is)
    (case xk_NoRow => k_is)
    (case xt_NoRow => k_is)
    (case xg_NoRow => k_is)
    (case xh_NoRow => k_is)
    (case xs_NoRow => k_is)
    (case xd_NoRow => k_is)
    (case xc_NoRow => k_is)
    (case xm_NoRow => k_is)
    (case xl_NoPicture => k_is)
    (case xv_NoPicture => decide +kernel)
    (case xw_NoPicture => k_is)
    (case xf_NoPicture => k_is)
    (case xi_NoPicture => k_is)
    (case xj_NoPicture => k_is)
    (case xo_NoPicture => k_is)
    (case xu_NoPicture => k_is)
    (case xz_NoPicture => k_is)
    (case qs_QuiltError => k_is)
    (case qr_QuiltError => k_is)
    (case qf_QuiltError => k_is)
    (case y_NoPicture_NoFit => k_is)
    (case d_NoPicture_NoFit => decide)
    (case y_NoPicture_NoGrammar => k_is)
    (case d_NoPicture_NoGrammar => decide)
    (case y_NoPicture_NoName => k_is)
    (case d_NoPicture_NoName => decide)
    (case y_NoPicture_NoNumber => k_is)
    (case d_NoPicture_NoNumber => decide)
    (case y_NoPicture_NoRow => k_is)
    (case d_NoPicture_NoRow => decide)
    (case y_NoPicture_NoRule => k_is)
    (case d_NoPicture_NoRule => decide)
    (case y_NoPicture_NoText => k_is)
    (case d_NoPicture_NoText => decide)
    (case y_NoPicture_NoTree => k_is)
    (case d_NoPicture_NoTree => decide)
    (case y_NoPicture_NoWord => k_is)
    (case d_NoPicture_NoWord => decide)
    (case y_NoPicture_TooMany => k_is)
    (case d_NoPicture_TooMany => decide)
    (case y_NoPicture_QuiltError => k_is)
    (case y_NoPicture_NoPicture => k_is)
    (case y_NoPicture_ValueError => k_is)
    (case a_checked => k_is)
    (case l_checked => k_is)
    (case c_checked => k_is)
    (case k_checked => k_is)
    (case a_shown => k_is)
    (case l_shown => k_is)
    (case c_shown => k_is)
    (case k_shown => k_is)
    (case a_read_picture => k_is)
    (case l_read_picture => k_is)
    (case c_read_picture => k_is)
    (case k_read_picture => k_is)
    (case a_law_cell => k_is)
    (case l_law_cell => k_is)
    (case c_law_cell => k_is)
    (case k_law_cell => k_is)
    (case a_law_whole => k_is)
    (case l_law_whole => k_is)
    (case c_law_whole => k_is)
    (case k_law_whole => k_is)
    (case a_law_signs => k_is)
    (case l_law_signs => k_is)
    (case c_law_signs => k_is)
    (case k_law_signs => k_is)
    (case a_law_row => k_is)
    (case l_law_row => k_is)
    (case c_law_row => k_is)
    (case k_law_row => k_is)
    (case a_law_any_sign => k_is)
    (case l_law_any_sign => k_is)
    (case c_law_any_sign => k_is)
    (case k_law_any_sign => k_is)
    (case a_law_why => k_is)
    (case l_law_why => k_is)
    (case c_law_why => k_is)
    (case k_law_why => k_is)
    (case a_law_texts => k_is)
    (case l_law_texts => k_is)
    (case c_law_texts => k_is)
    (case k_law_texts => k_is)
    (case a_law_why_of => k_is)
    (case l_law_why_of => k_is)
    (case c_law_why_of => k_is)
    (case k_law_why_of => k_is)
    (case a_law_picture => k_is)
    (case l_law_picture => k_is)
    (case c_law_picture => k_is)
    (case k_law_picture => k_is)
    (case a_law_split => k_is)
    (case l_law_split => k_is)
    (case c_law_split => k_is)
    (case k_law_split => k_is)
    (case a_law_spoilt => k_is)
    (case l_law_spoilt => k_is)
    (case c_law_spoilt => k_is)
    (case k_law_spoilt => k_is)
    (case a_law_read => k_is)
    (case l_law_read => k_is)
    (case c_law_read => k_is)
    (case k_law_read => k_is)
    (case a_law => k_is)
    (case l_law => k_is)
    (case c_law => k_is)
    (case k_law => k_is)
