import PyProof.Rows.All
import Wide.All
import OpenK.AllK
import Wide.FinOn
import HandS.ForMost
import HandS.ForExc
import HandS.Wide
import HandS.EndBits
import HandS.IsInst
import HandS.RevTup
import HandS.MapObj
import HandS.MapJoin
import HandS.Rev
import PySem.Challenge.RW_quiltlaw_k03_windows_cut_out
set_option Elab.async false
set_option linter.all false
set_option maxRecDepth 100000
set_option maxHeartbeats 4000000
/-! RevStr: sep.join(reversed(text)): what the library lacks for turnings.mirrored. -/
namespace RevS
open PySem PySem.Spec PyProof.Rows RT MpR

theorem norev_str : typeLookup (.type "str") "__reversed__" = pure none := by rw [typeLookup_type, builtinLookup_eq_fast]; kernel_rfl
theorem get_str : typeLookup (.type "str") "__getitem__" = pure (some (.builtin "str.__getitem__")) := by rw [typeLookup_type, builtinLookup_eq_fast]; kernel_rfl
theorem sub_str_dict : isSubtype (.type "str") (.type "dict") = pure false := by rw [isSubtype_type]; kernel_rfl
theorem nolen_rev : typeLookup (.type "reversed") "__len__" = pure none := by rw [typeLookup_type, builtinLookup_eq_fast]; kernel_rfl
theorem slot_hint : Slot "reversed" "__length_hint__" "reversed.__length_hint__" :=
  .of (owner := "reversed") (n := "__length_hint__") (by rw [typeLookup_type, builtinLookup_eq_fast]; kernel_rfl) (by decide +kernel) (by decide +kernel) (by decide +kernel)
    (by first | exact .inl (by decide +kernel) | exact .inr (by decide +kernel)) (by rw [isSubtype_type]; kernel_rfl)
theorem entry_hint : entryFor table "reversed.__length_hint__" = some Builtin.«reversed.__length_hint__» := entryFor_of_tree (by kernel_rfl)
theorem args_hint (a : Value) : argsOk "reversed.__length_hint__" ⟨[a], []⟩ := by
  unfold argsOk; rw [signature?_of (id := "reversed.__length_hint__") (n := ['_', '_', 't', 'n', 'i', 'h', '_', 'h', 't', 'g', 'n', 'e', 'l', '_', '_']) (o := ['d', 'e', 's', 'r', 'e', 'v', 'e', 'r']) (by kernel_rfl) owner_rt]; kernel_rfl

def rsObj (x : Str) (t : Tok) (i : Int) : Obj := { cls := .type "reversed", data := .fields #[.str x t, rawInt i] }
def IsRs (h : Heap) (a : Addr) (x : Str) (t : Tok) (i : Int) : Prop := ∃ o, h.get? a = some o ∧ o.cls = .type "reversed" ∧ o.data = .fields #[.str x t, rawInt i]
theorem IsRs.at {h h' : Heap} {a : Addr} {x : Str} {t : Tok} {i : Int} (q : IsRs h a x t i) (e : ∀ o, h.get? a = some o → h'.get? a = some o) : IsRs h' a x t i := let ⟨o, ho, r⟩ := q; ⟨o, e _ ho, r⟩
section
variable {prog : Program} {w : World} {A : Around} {E : Value → Shared → Prop} {s : Shared}
theorem IsRs.typeIs {a : Addr} {x : Str} {t : Tok} {i : Int} (q : IsRs s.heap a x t i) : s.TypeIs (.ref a) "reversed" := let ⟨o, ho, hc, _⟩ := q; ⟨o, ho, hc⟩

theorem code_reversed_str {x : Str} {t : Tok} {Q₁ : Value → Shared → Prop} (hz : x.length ≤ sizeLine)
    (h : Q₁ (.ref s.heap.objs.size) { s with heap := s.heap.push (rsObj x t ((x.length : Int) - 1)), toks := s.toks + 1 + 1 }) :
    codeAny (model prog w) A (.call (.builtin "reversed.__new__") ⟨[.type "reversed", .str x t], []⟩) (wants Q₁ E) s := by
  have hT : s.TypeIs (.str x t) "str" := typeIs_str _ _ _
  refine codeAny_of_tree ?_
  show wpAny _ A.in1 (do checkBuiltinCall "reversed.__new__" ⟨[.type "reversed", .str x t], []⟩; again (.builtin "reversed.__new__" ⟨[.type "reversed", .str x t], []⟩)) _ _ s
  refine wpAny_bind (wpAny_of_eq (F.newCall_reversed_1 _) (wpAny_pure ⟨plainId_quiet F.plain_reversed_new _, codeAny_builtin F.entry_reversed_new ?_⟩))
  rw [Around.under_plainId F.plain_reversed_new _]
  unfold Builtin.«reversed.__new__»
  refine wpAny_bind (wpAny_of_eq (newClass_reversed _) ?_)
  try dsimp only
  refine wpAny_bind (wpAny_of_eq (a := ()) (by first | rfl | kernel_rfl) ?_)
  try dsimp only
  refine wpAny_bind (wpAny_of_eq (a := ()) (by first | rfl | kernel_rfl) ?_)
  try dsimp only
  refine wpAny_bind (wpAny_specialOf hT norev_str ?_)
  try dsimp only
  refine wpAny_bind ?_
  wp_delta
  refine wpAny_bind (wpAny_isInstance (T := "str") (U := "dict") (b := false) hT sub_str_dict ?_)
  try dsimp only
  try rw [if_neg Bool.false_ne_true]
  try dsimp only
  refine wpAny_bind (wpAny_specialOf hT get_str ?_)
  try dsimp only
  try rw [if_pos (by decide +kernel)]
  refine wpAny_pure ?_
  try dsimp only
  try rw [if_neg (by decide)]
  try dsimp only
  refine wpAny_bind (P.len_str (by have := L2.line63; omega) ?_)
  refine wpAny_bind (wpAny_of_eq (a := some ((x.length : Nat) : Int)) rfl ?_)
  try dsimp only
  refine wpAny_bind ?_
  show wpAny _ _ (newObj (.type "reversed") (.fields #[.str x t, rawInt ((x.length : Int) - 1)])) _ _ _
  refine wpAny_newObj_type ?_
  exact wpAny_pure h

theorem call_reversed_str {x : Str} {t : Tok} {Q : Value → Shared → Prop} (hz : x.length ≤ sizeLine)
    (h : Q (.ref s.heap.objs.size) { s with heap := s.heap.push (rsObj x t ((x.length : Int) - 1)), toks := s.toks + 1 + 1 }) : wpAny (model prog w) A (call (.type "reversed") [.str x t]) Q E s := by
  refine callType_codes (Q₁ := fun obj s₁ => s₁.TypeIs obj "reversed" ∧ Q obj s₁) called_rt (F.typeCall_reversed_1 _) F.entry_object_init
    (code_reversed_str (A := A.in1) hz ⟨⟨_, Heap.get?_push_size _ rfl, rfl⟩, h⟩) fun obj s₁ h₁ => ?_
  exact ⟨h₁.1, F.args_object_init_2 obj _, object_init_meets called_rt.init.lookup called_rt.made (by decide) prog w A.in1 _ s₁ ⟨h₁.1, rfl, h₁.2⟩⟩

theorem next_rs_item {it : Addr} {x : Str} {t : Tok} {i c : Nat} {Q : Option Value → Shared → Prop} (hit : IsRs s.heap it x t (i : Int)) (hx : x.cps[i]? = some c) (hsz : x.length ≤ sizeLine)
    (hQ : ∀ h' tk, IsRs h' it x t ((i : Int) - 1) → Heap.SameBut it s.heap h' → Q (some (.str ⟨#[c]⟩ (s.toks + 1))) { s with heap := h', toks := tk }) : wpAny (model prog w) A (pyNext (.ref it)) Q E s := by
  obtain ⟨o, ho, hc, hd⟩ := id hit
  have hi : i < x.length := (Array.getElem?_eq_some_iff.mp hx).1
  have hT : s.TypeIs (.str x t) "str" := typeIs_str _ _ _
  have hn := L2.line63
  unfold pyNext
  refine wpAny_bind (wpAny_attempt (wpAny_callSpecial?_slot (name := Str.ofString "__next__") hit.typeIs slot_rt_next
    (wpAny_call_entry slot_rt_next hit.typeIs entry_rt_next ?_ (args_rt_next _))))
  unfold Builtin.«reversed.__next__»
  refine wpAny_bind (wpAny_of_eq (a := (Value.ref it, [])) rfl ?_)
  try dsimp only
  refine wpAny_bind (wpAny_field ho hd (x := .str x t) rfl ?_)
  try dsimp only
  refine wpAny_bind (wpAny_field ho hd (x := rawInt (i : Int)) rfl ?_)
  show wpAny _ _ (if (i : Int) < 0 then _ else _) _ _ s
  rw [if_neg (by omega)]
  try dsimp only
  refine wpAny_bind (wpAny_specialOf hT get_str ?_)
  try dsimp only
  try rw [if_neg (by decide)]
  try dsimp only
  refine wpAny_bind (wpAny_mkInt ?_)
  refine wpAny_bind (wpAny_attempt ?_)
  have fin : seqIndex? (i : Int) x.length = some i := seqIndex_of (by omega) (by omega)
  refine P.getItem_str (s := { s with toks := s.toks + 1 }) (c := c) (by
    have e1 : decide ((i : Int) < -(2 ^ 63 : Int)) = false := decide_eq_false (by omega)
    have e2 : decide ((i : Int) ≥ 2 ^ 63) = false := decide_eq_false (by omega)
    rw [e1, e2, Bool.or_false]) (by rw [fin]; simpa using hx) ?_
  try dsimp only
  refine wpAny_bind (wpAny_field (s := { s with toks := s.toks + 1 + 1 }) ho hd (x := rawInt (i : Int)) rfl ?_)
  try dsimp only
  refine wpAny_bind (wpAny_setField (s := { s with toks := s.toks + 1 + 1 }) ho hd (by simp) ?_)
  first
  | refine wpAny_pure ⟨_, rfl, wpAny_pure (hQ _ _ ?_ (Heap.SameBut.update ..))⟩
  | refine wpAny_bind (wpAny_pure (wpAny_pure ⟨_, rfl, wpAny_pure (hQ _ _ ?_ (Heap.SameBut.update ..))⟩))
  exact ⟨_, Heap.get?_update_self _ ho (Obj.isFreed_of_fields (Obj.data_mapFields hd _)), (Obj.cls_mapFields ..).trans hc, by
    rw [Obj.data_mapFields hd]; simp⟩

theorem next_rs_end {it : Addr} {x : Str} {t : Tok} {Q : Option Value → Shared → Prop} (hh : A.handled = none) (hit : IsRs s.heap it x t (-1))
    (hQ : ∀ h', Heap.ExtBut it s.heap h' → Q none { s with heap := h' }) : wpAny (model prog w) A (pyNext (.ref it)) Q E s := by
  obtain ⟨o, ho, hc, hd⟩ := id hit
  unfold pyNext
  refine wpAny_bind (wpAny_attempt (wpAny_callSpecial?_slot (name := Str.ofString "__next__") hit.typeIs slot_rt_next
    (wpAny_call_entry slot_rt_next hit.typeIs entry_rt_next ?_ (args_rt_next _))))
  unfold Builtin.«reversed.__next__»
  refine wpAny_bind (wpAny_of_eq (a := (Value.ref it, [])) rfl ?_)
  try dsimp only
  refine wpAny_bind (wpAny_field ho hd (x := .str x t) rfl ?_)
  try dsimp only
  refine wpAny_bind (wpAny_field ho hd (x := rawInt (-1)) rfl ?_)
  show wpAny _ _ (if (-1 : Int) < 0 then _ else _) _ _ s
  rw [if_pos (by decide)]
  try dsimp only
  refine wpAny_bind (wpAny_rule ?_)
  refine wpAny_bind ?_
  wp_delta
  refine wpAny_bind (wpAny_setField ho hd (by simp) ?_)
  have ho2 := Heap.get?_update_self (Obj.mapFields (·.setIfInBounds 1 (rawInt (-1)))) ho (Obj.isFreed_of_fields (Obj.data_mapFields hd _))
  refine wpAny_setField (s := { s with heap := s.heap.update it (Obj.mapFields (·.setIfInBounds 1 (rawInt (-1)))) }) ho2 (Obj.data_mapFields hd _) (by simp) ?_
  try dsimp only
  first
  | show wpAny _ _ (newExc (.type "StopIteration") [] >>= _) _ _ _
  | (refine wpAny_bind ?_; show wpAny _ _ (newExc (.type "StopIteration") [] >>= _) _ _ _)
  | (refine wpAny_bind ?_; wp_delta; show wpAny _ _ (newExc (.type "StopIteration") [] >>= _) _ _ _)
  refine wpAny_bind ?_
  simp only [newExc, newTuple]
  refine wpAny_bind (wpAny_newObj_type ?_ (by size_fits))
  refine wpAny_bind (m := firstArgMember _ _) (wpAny_of_eq (a := Value.none) (by first | rfl | (simp only [firstArgMember]; rfl)) ?_)
  refine wpAny_newObj_type ?_ (by size_fits)
  simp only [raiseNew]
  refine wpAny_bind (wpAny_handled ?_)
  first | rw [show A.in1.handled = none from hh] | rw [hh]
  refine wpAny_bind (wpAny_pure (wpAny_throw ?_))
  refine wpAny_bind (wpAny_isInstance (T := "StopIteration") (b := true) ⟨_, Heap.get?_push_size _ rfl, rfl⟩ isSubtype_stop ?_)
  refine wpAny_pure (hQ _ ?_)
  refine ((?_ : Heap.ExtBut it s.heap _).push _).push _
  exact fun b ob hb e => (Heap.get?_update_other _ _ (Ne.symm hb)).trans ((Heap.get?_update_other _ _ (Ne.symm hb)).trans e)

theorem iter_rs {it : Addr} {x : Str} {t : Tok} {i : Int} {Q : Value → Shared → Prop} (hit : IsRs s.heap it x t i) (h : Q (.ref it) s) : wpAny (model prog w) A (pyIter (.ref it)) Q E s := by
  refine wpAny_pyIter_slot hit.typeIs slot_rt_iter (wpAny_call_entry slot_rt_iter hit.typeIs entry_rt_iter ?_ (args_rt_iter _))
  show wpAny _ _ (ret (.ref it)) _ _ s
  exact wpAny_pure ⟨_, rfl, "reversed", _, hit.typeIs, slot_rt_next.lookup, h⟩
end

theorem walks_rs {prog : Program} {w : World} {A : Around} (hh : A.handled = none) (I : Addr) (x : Str) (t : Tok) (hsz : x.length ≤ sizeLine) :
    Walks prog w A I [I] [I] x.length (fun i v => ∃ c tk, x.cps[x.length - 1 - i]? = some c ∧ v = .str ⟨#[c]⟩ tk) (fun i h => i ≤ x.length ∧ IsRs h I x t ((x.length : Int) - 1 - (i : Int))) where
  sub := fun b hb => hb
  frame := fun _ _ _ q hk => ⟨q.1, q.2.at fun o e => hk I (by simp) o e⟩
  item := fun i s Q E hi q hQ => by
    have e : (x.length : Int) - 1 - (i : Int) = ((x.length - 1 - i : Nat) : Int) := by omega
    have hit := q.2
    rw [e] at hit
    have hlt : x.length - 1 - i < x.cps.size := by show x.length - 1 - i < x.length; omega
    have hx : x.cps[x.length - 1 - i]? = some (x.cps[x.length - 1 - i]'hlt) := Array.getElem?_eq_getElem hlt
    refine next_rs_item hit hx hsz fun h' tk hit' hs' => ?_
    have e2 : ((x.length - 1 - i : Nat) : Int) - 1 = (x.length : Int) - 1 - ((i + 1 : Nat) : Int) := by omega
    rw [e2] at hit'
    exact hQ _ h' tk ⟨_, _, hx, rfl⟩ ⟨hi, hit'⟩ fun b o hb eo => hs'.extBut b o (fun h => hb (by simp [h])) eo
  done := fun s Q E q hQ => by
    have e : (x.length : Int) - 1 - (x.length : Int) = -1 := by omega
    have hit := q.2
    rw [e] at hit
    exact next_rs_end hh hit fun h' he' => hQ h' s.toks fun b o hb eo => he' b o (fun h => hb (by simp [h])) eo
  self := fun _ _ _ _ q hQ => iter_rs q.2 hQ

section
variable {prog : Program} {w : World} {A : Around} {E : Value → Shared → Prop} {s : Shared}
/-- its length is asked for, the first time -/
theorem call_hint {it : Addr} {x : Str} {t : Tok} {Q : Value → Shared → Prop} (hit : IsRs s.heap it x t ((x.length : Int) - 1)) (hz : x.length ≤ sizeLine)
    (h : ∀ tk k, s.toks ≤ k → Q (.int x.length tk) { s with toks := k }) : wpAny (model prog w) A (call (.builtin "reversed.__length_hint__") [.ref it]) Q E s := by
  obtain ⟨o, ho, hc, hd⟩ := id hit
  refine wpAny_call_entry slot_hint hit.typeIs entry_hint ?_ (args_hint _)
  unfold Builtin.«reversed.__length_hint__»
  refine wpAny_bind (wpAny_of_eq (a := Value.ref it) rfl ?_)
  try dsimp only
  refine wpAny_bind (wpAny_field ho hd (x := .str x t) rfl ?_)
  try dsimp only
  rw [if_neg (by intro q; cases q)]
  try dsimp only
  refine wpAny_bind (P.len_str (by have := L2.line63; omega) ?_)
  refine wpAny_bind (wpAny_of_eq (a := some ((x.length : Nat) : Int)) rfl ?_)
  try dsimp only
  refine wpAny_bind (wpAny_field (s := { s with toks := s.toks + 1 + 1 }) ho hd (x := rawInt ((x.length : Int) - 1)) rfl ?_)
  try dsimp only
  have e : (x.length : Int) - 1 + 1 = x.length := by omega
  show wpAny _ _ (if (x.length : Int) < (x.length : Int) - 1 + 1 then _ else _) _ _ _
  rw [if_neg (by omega), e]
  refine wpAny_bind (wpAny_mkInt ?_)
  exact wpAny_pure ⟨_, rfl, h _ _ (by show s.toks ≤ s.toks + 1 + 1 + 1; omega)⟩
end
section
variable {prog : Program} {w : World} {A : Around} {E : Value → Shared → Prop} {s : Shared}
theorem collect_rs {I : Addr} {x : Str} {t : Tok} {Q : List Value → Shared → Prop} (hh : A.handled = none) (hz : x.length ≤ sizeLine) (hit : IsRs s.heap I x t ((x.length : Int) - 1))
    (hQ : ∀ s' acc, Moved [I] (fun a b => b = a) s s' → ItemsOf (fun i v => ∃ c tk, x.cps[x.length - 1 - i]? = some c ∧ v = .str ⟨#[c]⟩ tk) acc x.length → Q acc.toList s') : wpAny (model prog w) A (collect (.ref I)) Q E s := by
  have W := (walks_rs (prog := prog) (w := w) (A := A.in1) hh I x t hz).toS
  have hst : 0 ≤ x.length ∧ IsRs s.heap I x t ((x.length : Int) - 1 - ((0 : Nat) : Int)) := ⟨Nat.zero_le _, by rw [show ((x.length : Int) - 1 - ((0 : Nat) : Int)) = (x.length : Int) - 1 by omega]; exact hit⟩
  obtain ⟨oi, hoi, _⟩ := id hit
  have hSI : s.heap.objs.size ≠ I := Nat.ne_of_gt (Heap.lt_size hoi)
  have hSf : s.heap.objs.size ∉ [I] := by simp only [List.mem_singleton]; exact hSI
  unfold collect
  refine wpAny_bind (wpAny_runValue (codeAny_builtin F.entry_proto_collect ?_))
  rw [Around.under_plainId F.plain_proto_collect _]
  show wpAny _ A.in1 (newList [] >>= fun l => again (.builtin "list.__iadd__" ⟨[l, .ref I], []⟩)) _ _ s
  refine wpAny_bind (wpAny_newObj_type ?_)
  refine wpAny_pure ⟨plainId_quiet F.plain_list_iadd _, codeAny_builtin F.entry_list_iadd ?_⟩
  rw [Around.under_plainId F.plain_list_iadd _]
  have hit₁ : IsRs (s.heap.push { cls := .type "list", data := .seq ([] : List Value).toArray }) I x t ((x.length : Int) - 1) := hit.at fun o e => Heap.get?_push_of_some _ e
  have hT : ({ s with heap := s.heap.push { cls := .type "list", data := .seq ([] : List Value).toArray } } : Shared).TypeIs (.ref I) "reversed" := IsRs.typeIs (s := { s with heap := s.heap.push { cls := .type "list", data := .seq ([] : List Value).toArray } }) hit₁
  have hst₁ := W.frame 0 s (s.heap.push { cls := .type "list", data := .seq ([] : List Value).toArray }) s.toks hst (Nat.le_refl _) fun b _ o e => Heap.get?_push_of_some _ e
  show wpAny _ A.in1 (Builtin.List.listExtendWith (.ref s.heap.objs.size) (.ref I) (.ref s.heap.objs.size)) _ _ _
  unfold Builtin.List.listExtendWith
  refine wpAny_bind (wpAny_typeOf hT ?_)
  have h1 : Builtin.List.listSameRef (.ref s.heap.objs.size) (.ref I) = false := by simp [Builtin.List.listSameRef, hSI]
  have h2 : (Value.type "reversed" == Value.type "list") = false := by decide
  have h3 : (Value.type "reversed" == Value.type "tuple") = false := by decide
  simp only [h1, h2, h3, Bool.or_false, Bool.false_eq_true, if_false]
  refine wpAny_bind (W.self 0 _ _ _ hst₁ ?_)
  refine wpAny_bind (wpAny_holding ?_)
  unfold Builtin.List.listLengthHint
  refine wpAny_bind (wpAny_specialOf hT nolen_rev ?_)
  show wpAny _ A.in1 (specialOf (Value.ref I) (Str.ofString "__length_hint__") >>= _) _ _ _
  refine wpAny_bind (wpAny_specialOf hT slot_hint.lookup ?_)
  generalize hid : ("reversed.__length_hint__" : String) = id0
  wp_delta
  rw [show splitId id0 = some ("reversed", "__length_hint__") from by subst hid; decide +kernel]
  subst hid
  refine wpAny_bind (wpAny_isInstance (b := true) hT F.sub_reversed_self ?_)
  simp only [Bool.not_true, Bool.false_eq_true, if_false]
  rw [if_neg (by decide +kernel)]
  refine wpAny_bind (wpAny_rule ?_)
  refine wpAny_bind (wpAny_of_eq (slot_hint.bind _) ?_)
  try dsimp only
  refine wpAny_bind (wpAny_attempt (call_hint (s := { s with heap := s.heap.push { cls := .type "list", data := .seq ([] : List Value).toArray } }) hit₁ hz fun tk k hk => ?_))
  try dsimp only
  have hn63 := L2.line63
  have e0 : ((x.length : Nat) : Int) ≥ 0 := by omega
  have hfi : Builtin.List.listFitsIndex ((x.length : Nat) : Int) = true := by
    unfold Builtin.List.listFitsIndex
    rw [decide_eq_true (by omega), decide_eq_true (by omega)]; rfl
  have hlong : Builtin.List.listTooLong (((x.length : Nat) : Int)).toNat = false := L2.notLongL (by simpa using hz)
  have hm : asInt? (Value.int ((x.length : Nat) : Int) tk) = pure (some ((x.length : Nat) : Int)) := by simp only [asInt?]
  rw [hm]
  rw [pure_bind]
  try dsimp only
  rw [hfi, if_neg (by decide), if_neg (show ¬ ((x.length : Nat) : Int) < 0 by omega), hlong, if_neg (by decide)]
  refine wpAny_pure ?_
  have hS₁ : (s.heap.push { cls := .type "list", data := .seq ([] : List Value).toArray }).get? s.heap.objs.size = some { cls := .type "list", data := .seq ([] : List Value).toArray } := Heap.get?_push_size _ rfl
  have hS0 : ({ s with heap := s.heap.push { cls := .type "list", data := .seq ([] : List Value).toArray }, toks := k } : Shared).heap.get? s.heap.objs.size = some { cls := .type "list", data := .seq ([] : List Value).toArray } := hS₁
  by_cases hz0 : x.length = 0
  · rw [hz0]
    rw [if_neg (by decide +kernel)]
    refine wpAny_pure ⟨plainId_quiet F.plain_extend_loop _, codeAny_extend_loopS W hz _ hSf _ x.length 0 _ _ _ rfl (Nat.zero_le _) ⟨Nat.zero_le _, by rw [show ((x.length : Int) - 1 - ((0 : Nat) : Int)) = (x.length : Int) - 1 by omega]; exact hit₁⟩ hS0 (ItemsOf.nil _) fun s' acc' c' hm hS' hacc => ?_⟩
    show wpAny _ A (load s.heap.objs.size >>= _) _ _ s'
    refine wpAny_bind (wpAny_load hS' ?_)
    refine wpAny_pure (hQ s' acc' ?_ hacc)
    refine ⟨fun b o hb e => ?_, hm.gens, hm.drawn, hm.os, ?_⟩
    · refine hm.heap b o (fun hmem => ?_) (Heap.get?_push_of_some _ e)
      rcases List.mem_cons.mp hmem with e' | hmem
      · exact absurd (Heap.lt_size e) (by rw [e']; exact Nat.lt_irrefl _)
      · exact hb hmem
    · exact Nat.le_trans hk hm.toks
  · rw [if_pos (by
      have : (((x.length : Nat) : Int) != 0) = true := by
        rw [bne_iff_ne]; omega
      rw [this]; rfl)]
    refine wpAny_bind (wpAny_rule ?_)
    refine wpAny_bind ?_
    show wpAny _ A.in1 (updateSeq s.heap.objs.size (·.push .none) >>= fun _ => updateSeq s.heap.objs.size (·.pop)) _ _ _
    refine wpAny_bind (wpAny_updateSeq hS0 rfl ?_ (Nat.zero_le _) (Nat.succ_le_succ (Nat.zero_le _)))
    have hS₂ := Heap.get?_update_self (Obj.mapSeq (·.push Value.none)) hS₁ rfl
    refine wpAny_updateSeq hS₂ rfl ?_ (by show 1 ≤ sizeLine; decide) (Nat.zero_le _)
    have hS₃ := Heap.get?_update_self (Obj.mapSeq (·.pop)) hS₂ rfl
    have oth : ∀ b o, b ≠ s.heap.objs.size → (s.heap.push { cls := .type "list", data := .seq ([] : List Value).toArray }).get? b = some o →
        (((s.heap.push { cls := .type "list", data := .seq ([] : List Value).toArray }).update s.heap.objs.size (Obj.mapSeq (·.push Value.none))).update s.heap.objs.size (Obj.mapSeq (·.pop))).get? b = some o :=
      fun b o hb e => (Heap.get?_update_other _ _ (Ne.symm hb)).trans ((Heap.get?_update_other _ _ (Ne.symm hb)).trans e)
    have hit3 := hit₁.at fun o e => oth I o (Ne.symm hSI) e
    refine wpAny_pure ⟨plainId_quiet F.plain_extend_loop _, codeAny_extend_loopS W hz _ hSf _ x.length 0 _ _ _ rfl (Nat.zero_le _) ⟨Nat.zero_le _, by rw [show ((x.length : Int) - 1 - ((0 : Nat) : Int)) = (x.length : Int) - 1 by omega]; exact hit3⟩ hS₃ (ItemsOf.nil _) fun s' acc' c' hm hS' hacc => ?_⟩
    show wpAny _ A (load s.heap.objs.size >>= _) _ _ s'
    refine wpAny_bind (wpAny_load hS' ?_)
    refine wpAny_pure (hQ s' acc' ?_ hacc)
    refine ⟨fun b o hb e => ?_, hm.gens, hm.drawn, hm.os, ?_⟩
    · have hbs : b ≠ s.heap.objs.size := Nat.ne_of_lt (Heap.lt_size e)
      refine hm.heap b o (fun hmem => ?_) (oth b o hbs (Heap.get?_push_of_some _ e))
      rcases List.mem_cons.mp hmem with e' | hmem
      · exact hbs e'
      · exact hb hmem
    · exact Nat.le_trans hk hm.toks
end

def one (c : Nat) : Str := ⟨#[c]⟩
theorem strs_rs {x : Str} {acc : Array Value} (h : ItemsOf (fun i v => ∃ c tk, x.cps[x.length - 1 - i]? = some c ∧ v = .str ⟨#[c]⟩ tk) acc x.length) : StrsAre acc.toList (x.cps.toList.reverse.map one) := by
  obtain ⟨h1, h2⟩ := h
  have hz : acc.toList.length = (x.cps.toList.reverse.map one).length := by simp [h1, Str.length]
  have key : ∀ (i : Nat) (v : Value), acc.toList[i]? = some v → ∃ (y : Str) (t : Tok), (x.cps.toList.reverse.map one)[i]? = some y ∧ v = .str y t := by
    intro i v hv
    have hv' : acc[i]? = some v := by simpa using hv
    have hi : i < x.length := by
      have h3 := (Array.getElem?_eq_some_iff.mp hv').1
      omega
    obtain ⟨c, tk, hc, rfl⟩ := h2 i v hv'
    refine ⟨⟨#[c]⟩, tk, ?_, rfl⟩
    have hl : x.cps.toList.length = x.length := by simp [Str.length]
    rw [List.getElem?_map, List.getElem?_reverse (by omega), hl, Array.getElem?_toList, hc]
    rfl
  generalize x.cps.toList.reverse.map one = ys at hz key
  generalize acc.toList = L at hz key
  clear h1 h2
  induction L generalizing ys with
  | nil =>
    cases ys with
    | nil => exact .nil
    | cons y r => simp at hz
  | cons v L ih =>
    cases ys with
    | nil => simp at hz
    | cons y ys =>
      obtain ⟨y', t, hy, rfl⟩ := key 0 v rfl
      have ey : y = y' := Option.some.inj hy
      subst ey
      exact .cons y t (ih ys (by simpa using hz) fun i v' hv => key (i + 1) v' (by simpa using hv))
section
variable {prog : Program} {w : World} {A : Around} {E : Value → Shared → Prop} {s : Shared}
theorem join_rs {I : Addr} {x a : Str} {t u : Tok} {Q : Value → Shared → Prop} (hh : A.handled = none) (hz : x.length ≤ sizeLine) (hit : IsRs s.heap I x t ((x.length : Int) - 1))
    (hok : x.length + x.length * a.length ≤ 16777216)
    (hq : ∀ s', Moved [I] (fun a b => b = a) s s' → ∀ t' k, Q (.str (Txt.join a (x.cps.toList.reverse.map one)) t') { s' with toks := k }) :
    wpAny (model prog w) A (call (.builtin "str.join") [.str a u, .ref I]) Q E s := by
  have hT : s.TypeIs (.ref I) "reversed" := hit.typeIs
  have hl : x.cps.toList.length = x.length := by simp [Str.length]
  have hok2 : ((x.cps.toList.reverse.map one).map (·.length)).sum + (x.cps.toList.reverse.map one).length * a.length ≤ 16777216 := by
    have e1 : ((x.cps.toList.reverse.map one).map (·.length)).sum = x.length := by
      rw [List.map_map, show ((fun y : Str => y.length) ∘ one) = fun _ => 1 from rfl]
      rw [List.map_const', List.sum_replicate_nat]
      simp [Str.length]
    rw [e1, List.length_map, List.length_reverse, hl]
    exact hok
  refine wpAny_call (codeAny_call_builtin F.slot_str_join.plain F.entry_str_join (F.slot_str_join.check _ _ _ _ _ _ _ _ (typeIs_str _ _ _) (F.args_str_join_2 _ _) ?_))
  rw [join_tree_other]
  refine wpAny_bind (wpAny_typeOf hT ?_)
  show wpAny _ A.in1 ((pyIter (.ref I)).tryCatch _ >>= fun it => collect it >>= fun items => joinTail a items) _ _ s
  refine wpAny_bind (wpAny_tryCatch (iter_rs hit ?_))
  refine wpAny_bind (collect_rs (A := A.in1) hh hz hit fun s' acc hm hacc => ?_)
  obtain ⟨l, hl2, ht⟩ := strsAre_values (strs_rs hacc)
  rw [hl2]
  rw [← ht] at hok2 hq
  have hok' := joinOk_of hok2
  unfold JoinOk at hok'
  rw [Bool.not_eq_true'] at hok'
  have g : Gives (joinTail a (strValues l)) (joinMade a l) := by
    have g0 := gives_joinTail a l hok'
    cases l with
    | nil => exact g0
    | cons p r => cases r with
      | nil => exact g0
      | cons q r' => exact g0
  exact g prog w A (wants Q E) s' (post_join l ⟨joinFit_length hok', hq s' hm⟩)
end
end RevS
namespace L2
open PySem PySem.Spec PyProof.Rows
/-- sep.join(reversed(text)) -/
def tJoinRev (to te : TE) : TE := fun σ H Q => to σ H fun x H1 => (∃ a, x = .str a) ∧ te σ H1 fun v H2 => ∃ (a z : Str), x = .str a ∧ v = .str z ∧ z.length ≤ sizeLine ∧ z.length + z.length * a.length ≤ 16777216 ∧
  Q (.str (Txt.join a (z.cps.toList.reverse.map RevS.one))) H2
theorem pe_joinRev {X : Cx} {o e : Expr} {to te : TE} {apos pos p pos2 : Pos} (hc : X.calm = true) (ho : PE X o to) (hg : Gl X "reversed") (hm : X.mg "reversed" = none) (he : PE X e te)
    (hs1 : starEach [.Call (.Name "reversed" p) [e] [] pos2] X.env = [(false, eval (.Call (.Name "reversed" p) [e] [] pos2) X.env)] := by rfl)
    (hs : starEach [e] X.env = (false, eval e X.env) :: starEach [] X.env := by rfl)
    (hbase : attributeBase o "join" X.env (eval o X.env) = eval o X.env := by rfl) (hline : (apos.endLine == pos.line) = true := by rfl) :
    PE X (.Call (.Attribute o "join" apos) [.Call (.Name "reversed" p) [e] [] pos2] [] pos) (tJoinRev to te) := by
  refine ⟨fun pins s σ H Q I h => ?_⟩
  refine PySem.Call_method1 hbase hs1 hline (thn (ho.run pins s σ H _ I h) fun v s1 ⟨x, H1, I1, r1, q1⟩ => ?_)
  obtain ⟨⟨a, rfl⟩, q1⟩ := q1
  obtain ⟨t, rfl⟩ := _root_.id r1
  refine ⟨"str", _, F.plainAttrs_str, F.slot_str_join, F.type_str_join, typeIs_str _ _ _, (fun _ e => nomatch e), Calls.callWith_builtin rfl (Calls.evalArgs_plain (Calls.spliced_cons ?_))⟩
  refine Call_ (ld_blt I1 hg hm PyProof.Rows.boot_reversed (PyProof.Rows.callWith_type1 (args_cons (thn (he.run pins s1 σ H1 _ I1 q1) fun u s2 ⟨v, H2, I2, r2, q2⟩ => args_nil ?_) hs) hs rfl))
  obtain ⟨a', z, ea, ev, hz, hk, q⟩ := q2
  cases ea
  subst ev
  obtain ⟨t2, rfl⟩ := _root_.id r2
  refine RevS.call_reversed_str hz (Calls.spliced_nil ?_)
  have hit : RevS.IsRs (s2.heap.push (RevS.rsObj z t2 ((z.length : Int) - 1))) s2.heap.objs.size z t2 ((z.length : Int) - 1) := ⟨_, Heap.get?_push_size _ rfl, rfl, rfl⟩
  refine RevS.join_rs (s := { s2 with heap := s2.heap.push (RevS.rsObj z t2 ((z.length : Int) - 1)), toks := s2.toks + 1 + 1 }) (I2.ok.hd hc) hz hit hk fun s' hm' t' k => ?_
  have kp : ∀ b o, s2.heap.get? b = some o → s'.heap.get? b = some o := fun b o e => hm'.heap b o (by
    simp only [List.mem_singleton]
    exact Nat.ne_of_lt (Heap.lt_size e)) (Heap.get?_push_of_some _ e)
  rw [Moved.eq_with hm']
  exact ⟨.str _, H2, I2.kept (t' := k) kp, ⟨t', rfl⟩, q⟩
end L2

/-! Tw: typed judgements over HandS: values as Lean data in a frozen heap F inside the heap H. -/
namespace Tw
open PySem PySem.Spec PyProof.Rows L2 TL

/-! ### typed data in a heap -/
class Rep (α : Type) where
  rp : PySem.W.Frag → Hp → V → α → Prop
  mono : ∀ {K : PySem.W.Frag} {F F' : Hp} {v : V} {x : α}, Same F F' → rp K F v x → rp K F' v x
abbrev rp {α : Type} {i : Rep α} (K : PySem.W.Frag) (F : Hp) (v : V) (x : α) : Prop := i.rp K F v x
abbrev Tx := List Nat
def sx (x : Tx) : Str := ⟨x.toArray⟩
theorem tl_sx (x : Tx) : tl (sx x) = x := rfl
theorem sx_tl (x : Str) : sx (tl x) = x := mk_tl x
theorem sx_inj {x y : Tx} (h : sx x = sx y) : x = y := by have := congrArg tl h; simpa [tl_sx] using this
theorem sx_len (x : Tx) : (sx x).length = x.length := by rw [len_tl]; rfl
theorem sx_app (x y : Tx) : sx x ++ sx y = sx (x ++ y) := ext_tl (by rw [tl_append]; rfl)
instance repInt : Rep Int := ⟨fun _ _ v x => v = .int x, fun _ h => h⟩
instance repBool : Rep Bool := ⟨fun _ _ v x => v = .bl x, fun _ h => h⟩
instance repUnit : Rep Unit := ⟨fun _ _ v _ => v = .non, fun _ h => h⟩
instance repTx : Rep (List Nat) := ⟨fun _ _ v x => v = .str (sx x), fun _ h => h⟩
instance repList {α : Type} [i : Rep α] : Rep (List α) := ⟨fun K H v xs => ∃ a vs, v = .ref a ∧ H a = some (.lst vs) ∧ Paired (fun u x => i.rp K H u x) vs xs,
  fun s ⟨a, vs, e, h, p⟩ => ⟨a, vs, e, s _ _ h, Paired.mapP p fun _ _ q => i.mono s q⟩⟩
/-- a tuple of like things -/
structure Tup (α : Type) where
  l : List α
instance repTup {α : Type} [i : Rep α] : Rep (Tup α) := ⟨fun K H v xs => ∃ a vs, v = .ref a ∧ H a = some (.tup vs) ∧ Paired (fun u x => i.rp K H u x) vs xs.l,
  fun s ⟨a, vs, e, h, p⟩ => ⟨a, vs, e, s _ _ h, Paired.mapP p fun _ _ q => i.mono s q⟩⟩
instance repPair {α β : Type} [i : Rep α] [j : Rep β] : Rep (α × β) := ⟨fun K H v x => ∃ a u w, v = .ref a ∧ H a = some (.tup [u, w]) ∧ i.rp K H u x.1 ∧ j.rp K H w x.2,
  fun s ⟨a, u, w, e, h, p, q⟩ => ⟨a, u, w, e, s _ _ h, i.mono s p, j.mono s q⟩⟩
instance repOpt {α : Type} [i : Rep α] : Rep (Option α) := ⟨fun K H v x => match x with | none => v = .non | some y => i.rp K H v y,
  fun {K F F' v x} s h => by cases x with | none => exact h | some y => exact i.mono s h⟩
/-- the script -/
structure Scr where
  l : List Int
instance repScr : Rep Scr := ⟨fun K H v x => ∃ a, v = .ref a ∧ SqL K H a (x.l.map V.int), fun s ⟨a, e, h⟩ => ⟨a, e, s.seq h⟩⟩

abbrev Rps {α : Type} [i : Rep α] (K : PySem.W.Frag) (F : Hp) (vs : List V) (xs : List α) : Prop := Paired (fun u x => i.rp K F u x) vs xs
section
variable {α β : Type} [i : Rep α] [j : Rep β] {K : PySem.W.Frag} {F F' : Hp} {vs : List V} {xs : List α}
theorem Rps.mono (s : Same F F') (h : Rps K F vs xs) : Rps K F' vs xs := Paired.mapP h fun _ _ q => i.mono s q
theorem Rps.len (h : Rps K F vs xs) : vs.length = xs.length := Paired.length h
theorem pgetL {A B : Type} {G : A → B → Prop} : ∀ {l : List A} {m : List B} {k : Nat} {b : B}, Paired G l m → m[k]? = some b → ∃ a, l[k]? = some a ∧ G a b
  | _, _, 0, _, .cons r _, e => by simp at e; subst e; exact ⟨_, rfl, r⟩
  | _, _, k + 1, b, .cons _ t, e => by
    obtain ⟨a, h1, h2⟩ := pgetL (k := k) (b := b) t (by simpa using e)
    exact ⟨a, by simpa using h1, h2⟩
theorem pgetR {A B : Type} {G : A → B → Prop} {l : List A} {m : List B} {k : Nat} {a : A} (h : Paired G l m) (e : l[k]? = some a) : ∃ b, m[k]? = some b ∧ G a b := paired_get h e
theorem ptake {A B : Type} {G : A → B → Prop} : ∀ {l : List A} {m : List B} (n : Nat), Paired G l m → Paired G (l.take n) (m.take n)
  | _, _, 0, _ => .nil
  | _, _, _ + 1, .nil => .nil
  | _, _, n + 1, .cons r t => .cons r (ptake n t)
theorem pdrop {A B : Type} {G : A → B → Prop} : ∀ {l : List A} {m : List B} (n : Nat), Paired G l m → Paired G (l.drop n) (m.drop n)
  | _, _, 0, r => r
  | _, _, _ + 1, .nil => .nil
  | _, _, n + 1, .cons _ t => pdrop n t
theorem papp {A B : Type} {G : A → B → Prop} : ∀ {l l' : List A} {m m' : List B}, Paired G l m → Paired G l' m' → Paired G (l ++ l') (m ++ m')
  | _, _, _, _, .nil, s => s
  | _, _, _, _, .cons r t, s => .cons r (papp t s)
theorem prev {A B : Type} {G : A → B → Prop} : ∀ {l : List A} {m : List B}, Paired G l m → Paired G l.reverse m.reverse
  | _, _, .nil => .nil
  | _, _, .cons r t => by
    rw [List.reverse_cons, List.reverse_cons]
    exact papp (prev t) (.cons r .nil)
theorem pset {A B : Type} {G : A → B → Prop} {a : A} {b : B} (g : G a b) : ∀ {l : List A} {m : List B} (n : Nat), Paired G l m → Paired G (l.set n a) (m.set n b)
  | _, _, _, .nil => .nil
  | _, _, 0, .cons _ t => .cons g t
  | _, _, n + 1, .cons r t => .cons r (pset g n t)
theorem Rps.ints {ns : List Int} : ∀ {vs : List V}, Paired (fun u x => repInt.rp K F u x) vs ns → vs = ns.map V.int := by
  induction ns with
  | nil => intro vs h; cases h; rfl
  | cons n ns ih =>
    intro vs h
    cases h with
    | cons r t =>
      obtain rfl : _ = V.int n := r
      rw [ih t]
      rfl
theorem Rps.bls {ns : List Bool} : ∀ {vs : List V}, Paired (fun u x => repBool.rp K F u x) vs ns → vs = ns.map V.bl := by
  induction ns with
  | nil => intro vs h; cases h; rfl
  | cons n ns ih =>
    intro vs h
    cases h with
    | cons r t =>
      obtain rfl : _ = V.bl n := r
      rw [ih t]
      rfl
theorem Rps.strs {ns : List Tx} : ∀ {vs : List V}, Paired (fun u x => repTx.rp K F u x) vs ns → vs = (ns.map sx).map V.str := by
  induction ns with
  | nil => intro vs h; cases h; rfl
  | cons n ns ih =>
    intro vs h
    cases h with
    | cons r t =>
      obtain rfl : _ = V.str (sx n) := r
      rw [ih t]
      rfl
theorem Rps.of_ints : ∀ (ns : List Int), Rps K F (ns.map V.int) ns
  | [] => .nil
  | n :: ns => .cons rfl (Rps.of_ints ns)
theorem Rps.of_strs : ∀ (ns : List Tx), Rps K F ((ns.map sx).map V.str) ns
  | [] => .nil
  | n :: ns => .cons rfl (Rps.of_strs ns)
end

/-! ### the heaps' steps -/
structure ExtM (M : Addr → Prop) (F H F' H' : Hp) : Prop where
  ff : Same F F'
  fh : Same F' H'
  hh : ∀ b o, ¬ M b → H b = some o → H' b = some o
  nw : ∀ a, F a = none → H a ≠ none → F' a = none
abbrev M0 : Addr → Prop := fun _ => False
abbrev Ext := ExtM M0
theorem Ext.hs {F H F' H' : Hp} (e : Ext F H F' H') : Same H H' := fun b o h => e.hh b o (fun z => z) h
theorem Ext.refl {F H : Hp} (h : Same F H) : Ext F H F H := ⟨Same.refl F, h, fun _ _ _ h => h, fun _ h _ => h⟩
theorem ExtM.trans {M : Addr → Prop} {F H F1 H1 F2 H2 : Hp} (a : ExtM M F H F1 H1) (b : Ext F1 H1 F2 H2) (hM : ∀ x, M x → H x ≠ none → H1 x ≠ none) : ExtM M F H F2 H2 :=
  ⟨a.ff.trans b.ff, b.fh, fun x o hx h => b.hs _ _ (a.hh x o hx h), fun x h1 h2 => b.nw x (a.nw x h1 h2) (by
    by_cases hm : M x
    · exact hM x hm h2
    · intro z
      cases q : H x with
      | none => exact h2 q
      | some o => rw [a.hh x o hm q] at z; cases z)⟩
theorem Ext.trans {F H F1 H1 F2 H2 : Hp} (a : Ext F H F1 H1) (b : Ext F1 H1 F2 H2) : Ext F H F2 H2 := ExtM.trans a b fun _ z => z.elim
/-- a new frozen thing -/
theorem Ext.new {F H : Hp} (h : Same F H) {p : Addr} {o : HO} (hp : H p = none) : Ext F H (upd F p o) (upd H p o) := by
  have fp : F p = none := h.free hp
  refine ⟨fun b u e => ?_, fun b u e => ?_, fun b u _ e => ?_, fun b e ne => ?_⟩
  · rw [upd_ne (ne_of_none e fp)]; exact e
  · by_cases hb : b = p
    · subst hb; rw [upd_same] at e ⊢; exact e
    · rw [upd_ne hb] at e ⊢; exact h _ _ e
  · rw [upd_ne (ne_of_none e hp)]; exact e
  · rw [upd_ne (fun z => by subst z; exact ne hp)]; exact e
/-- a new thing that is kept apart -/
theorem Ext.apart {F H : Hp} (h : Same F H) {p : Addr} {o : HO} (hp : H p = none) : Ext F H F (upd H p o) :=
  ⟨Same.refl F, fun b u e => by rw [upd_ne (ne_of_none (h _ _ e) hp)]; exact h _ _ e, fun b u _ e => by rw [upd_ne (ne_of_none e hp)]; exact e, fun _ e _ => e⟩
theorem same_upd {F H : Hp} (h : Same F H) {p : Addr} {o : HO} (fp : F p = none) : Same F (upd H p o) := fun b u e => by
  rw [upd_ne (ne_of_none e fp)]; exact h _ _ e

/-! ### slots -/
inductive Slot : Type 1 where
  | no
  | val {α : Type} (i : Rep α) (x : α)
  | lst {α : Type} (i : Rep α) (a : Addr) (xs : List α)
abbrev vl {α : Type} [i : Rep α] (x : α) : Slot := .val i x
abbrev ls {α : Type} [i : Rep α] (a : Addr) (xs : List α) : Slot := .lst i a xs
/-- what comes out of a def: data, or a new list of the asker's own -/
inductive Ret : Type 1 where
  | val {α : Type} (i : Rep α) (x : α)
  | new {α : Type} (i : Rep α) (xs : List α)
abbrev rv {α : Type} [i : Rep α] (x : α) : Ret := .val i x
abbrev rn {α : Type} [i : Rep α] (xs : List α) : Ret := .new i xs
structure Bs where
  F : Hp
  H : Hp
  M : Addr → Prop
def SlotOk (K : PySem.W.Frag) (B : Bs) (F H : Hp) (ov : Option V) : Slot → Prop
  | .no => True
  | .val i x => ∃ v, ov = some v ∧ i.rp K F v x
  | .lst i a xs => ov = some (.ref a) ∧ F a = none ∧ (B.H a = none ∨ B.M a) ∧ ∃ vs, H a = some (.lst vs) ∧ Paired (fun u x => i.rp K F u x) vs xs
def Slot.own : Slot → Bool
  | .lst _ _ _ => true
  | _ => false
/-- the places of the frame, and what they hold -/
structure Lc (K : PySem.W.Frag) (B : Bs) (F H : Hp) (σ : L2.St) (Γ : List Slot) : Prop where
  ext : ExtM B.M B.F B.H F H
  there : ∀ x, B.M x → B.H x ≠ none → H x ≠ none
  len : σ.length = Γ.length
  ok : ∀ (i : Nat) s, Γ[i]? = some s → SlotOk K B F H (σ[i]?).join s
  ap : ∀ (i j : Nat) s t a, i ≠ j → Γ[i]? = some s → Γ[j]? = some t → s.own = true → t.own = true → σ[i]? = some (some (.ref a)) → σ[j]? ≠ some (some (.ref a))
section
variable {K : PySem.W.Frag} {B : Bs} {F H F' H' : Hp} {σ : L2.St} {Γ : List Slot} {α : Type} {i : Rep α}
theorem Lc.same (L : Lc K B F H σ Γ) : Same F H := L.ext.fh
theorem SlotOk.step {ov : Option V} {s : Slot} (e : Ext F H F' H') (h : SlotOk K B F H ov s) : SlotOk K B F' H' ov s := by
  cases s with
  | no => trivial
  | val i x => obtain ⟨v, e1, r⟩ := h; exact ⟨v, e1, i.mono e.ff r⟩
  | lst i a xs =>
    obtain ⟨e1, f, b, vs, h1, p⟩ := h
    exact ⟨e1, e.nw a f (by rw [h1]; exact fun z => nomatch z), b, vs, e.hs _ _ h1, Paired.mapP p fun _ _ q => i.mono e.ff q⟩
theorem Lc.step (L : Lc K B F H σ Γ) (e : Ext F H F' H') : Lc K B F' H' σ Γ :=
  ⟨L.ext.trans e L.there, fun x hx hb z => (by
    have := L.there x hx hb
    cases q : H x with
    | none => exact this q
    | some o => rw [e.hs _ _ q] at z; cases z), L.len, fun j s h => (L.ok j s h).step e, L.ap⟩
theorem slot_val {k : Nat} {x : α} (L : Lc K B F H σ Γ) (h : Γ[k]? = some (.val i x)) : ∃ v, σ[k]? = some (some v) ∧ i.rp K F v x := by
  obtain ⟨v, e, r⟩ := L.ok k _ h
  refine ⟨v, ?_, r⟩
  cases q : σ[k]? with
  | none => rw [q] at e; cases e
  | some o => rw [q] at e; rw [← e]; rfl
theorem slot_lst {k : Nat} {a : Addr} {xs : List α} (L : Lc K B F H σ Γ) (h : Γ[k]? = some (.lst i a xs)) :
    ∃ vs, σ[k]? = some (some (.ref a)) ∧ F a = none ∧ (B.H a = none ∨ B.M a) ∧ H a = some (.lst vs) ∧ Paired (fun u x => i.rp K F u x) vs xs := by
  obtain ⟨e, f, b, vs, h1, p⟩ := L.ok k _ h
  refine ⟨vs, ?_, f, b, h1, p⟩
  cases q : σ[k]? with
  | none => rw [q] at e; cases e
  | some o => rw [q] at e; rw [← e]; rfl
theorem get_set_join {σ : L2.St} {k j : Nat} {o : Option V} : ((σ.set k o)[j]?).join = if k = j ∧ j < σ.length then o else (σ[j]?).join := by
  by_cases h : k = j
  · subst h
    by_cases hl : k < σ.length
    · rw [List.getElem?_set_self hl, if_pos ⟨rfl, hl⟩]; rfl
    · rw [List.getElem?_eq_none (by simpa using hl), if_neg (fun z => hl z.2), List.getElem?_eq_none (by simpa using hl)]
  · rw [List.getElem?_set_ne h, if_neg (fun z => h z.1)]
theorem get_set_slot {Γ : List Slot} {k j : Nat} {o s : Slot} (h : (Γ.set k o)[j]? = some s) : (k = j ∧ j < Γ.length ∧ s = o) ∨ (k ≠ j ∧ Γ[j]? = some s) := by
  by_cases e : k = j
  · subst e
    have hl : k < Γ.length := by
      have := (List.getElem?_eq_some_iff.mp h).1
      simpa using this
    rw [List.getElem?_set_self hl] at h
    exact .inl ⟨rfl, hl, (Option.some.inj h).symm⟩
  · rw [List.getElem?_set_ne e] at h
    exact .inr ⟨e, h⟩
/-- a place is given something that owns nothing -/
theorem Lc.put (L : Lc K B F H σ Γ) (k : Nat) {ov : Option V} {s : Slot} (hs : s.own = false) (ho : SlotOk K B F H ov s) : Lc K B F H (σ.set k ov) (Γ.set k s) := by
  refine ⟨L.ext, L.there, by simp [L.len], fun j t h => ?_, fun a b s1 s2 ad hab h1 h2 o1 o2 e1 e2 => ?_⟩
  · rw [get_set_join]
    rcases get_set_slot h with ⟨e1, e2, rfl⟩ | ⟨e1, h⟩
    · rw [if_pos ⟨e1, by rw [L.len]; exact e2⟩]; exact ho
    · rw [if_neg fun z => e1 z.1]; exact L.ok j t h
  · rcases get_set_slot h1 with ⟨_, _, rfl⟩ | ⟨n1, h1⟩
    · rw [hs] at o1; cases o1
    rcases get_set_slot h2 with ⟨_, _, rfl⟩ | ⟨n2, h2⟩
    · rw [hs] at o2; cases o2
    rw [List.getElem?_set_ne n1] at e1
    rw [List.getElem?_set_ne n2] at e2
    exact L.ap a b s1 s2 ad hab h1 h2 o1 o2 e1 e2
theorem Lc.putV (L : Lc K B F H σ Γ) (k : Nat) {v : V} {x : α} (r : i.rp K F v x) : Lc K B F H (σ.set k (some v)) (Γ.set k (.val i x)) := L.put k rfl ⟨v, rfl, r⟩
theorem Lc.putN (L : Lc K B F H σ Γ) (k : Nat) (o : Option V) : Lc K B F H (σ.set k o) (Γ.set k .no) := L.put k rfl trivial
/-- a place is given a new list of its own -/
theorem Lc.putL (L : Lc K B F H σ Γ) (k : Nat) (e : Ext F H F' H') {a : Addr} {vs : List V} {xs : List α} (ha : H a = none) (fa : F' a = none) (h' : H' a = some (.lst vs)) (p : Paired (fun u x => i.rp K F' u x) vs xs) :
    Lc K B F' H' (σ.set k (some (.ref a))) (Γ.set k (.lst i a xs)) := by
  have L' := L.step e
  have ba : B.H a = none ∨ B.M a := by
    by_cases hm : B.M a
    · exact .inr hm
    · refine .inl ?_
      cases q : B.H a with
      | none => rfl
      | some o => rw [L.ext.hh a o hm q] at ha; cases ha
  have old : ∀ (j : Nat) s b, Γ[j]? = some s → s.own = true → σ[j]? = some (some (.ref b)) → b ≠ a := fun j s b hj ho hb z => by
    cases s with
    | no => cases ho
    | val i x => cases ho
    | lst i c ys =>
      obtain ⟨ws, ec, _, _, hc, _⟩ := slot_lst L hj
      rw [hb] at ec
      cases ec
      rw [z, ha] at hc
      cases hc
  refine ⟨L'.ext, L'.there, by simp [L.len], fun j t h => ?_, fun x y s1 s2 ad hxy h1 h2 o1 o2 e1 e2 => ?_⟩
  · rw [get_set_join]
    rcases get_set_slot h with ⟨e1, e2, rfl⟩ | ⟨e1, h⟩
    · rw [if_pos ⟨e1, by rw [L.len]; exact e2⟩]; exact ⟨rfl, fa, ba, vs, h', p⟩
    · rw [if_neg fun z => e1 z.1]; exact L'.ok j t h
  · rcases get_set_slot h1 with ⟨k1, l1, rfl⟩ | ⟨n1, h1⟩
    · rcases get_set_slot h2 with ⟨k2, _, _⟩ | ⟨n2, h2⟩
      · exact hxy (k1.symm.trans k2)
      · subst k1
        rw [List.getElem?_set_self (by rw [L.len]; exact l1)] at e1
        rw [List.getElem?_set_ne n2] at e2
        have : a = ad := by injection (Option.some.inj e1) with z; injection z
        subst this
        exact old y s2 _ h2 o2 e2 rfl
    · rw [List.getElem?_set_ne n1] at e1
      rcases get_set_slot h2 with ⟨k2, l2, rfl⟩ | ⟨n2, h2⟩
      · subst k2
        rw [List.getElem?_set_self (by rw [L.len]; exact l2)] at e2
        have : a = ad := by injection (Option.some.inj e2) with z; injection z
        subst this
        exact old x s1 _ h1 o1 e1 rfl
      · rw [List.getElem?_set_ne n2] at e2
        exact L.ap x y s1 s2 ad hxy h1 h2 o1 o2 e1 e2
/-- the own list of a place is changed -/
theorem Lc.updL (L : Lc K B F H σ Γ) {k : Nat} {a : Addr} {β : Type} {j : Rep β} {ys : List β} {vs' : List V} {xs' : List α} (hk : Γ[k]? = some (.lst j a ys)) (p : Paired (fun u x => i.rp K F u x) vs' xs') :
    Lc K B F (upd H a (.lst vs')) σ (Γ.set k (.lst i a xs')) := by
  obtain ⟨vs, ea, fa, ba, ha, _⟩ := slot_lst L hk
  refine ⟨⟨L.ext.ff, same_upd L.same fa, fun b o nb e => ?_, L.ext.nw⟩, fun x hx hb => ?_, by simp [L.len], fun q t h => ?_, fun x y s1 s2 ad hxy h1 h2 o1 o2 => ?_⟩
  · by_cases hb : b = a
    · subst hb
      rcases ba with z | z
      · rw [z] at e; cases e
      · exact absurd z nb
    · rw [upd_ne hb]; exact L.ext.hh b o nb e
  · by_cases hb' : x = a
    · subst hb'; rw [upd_same]; exact fun z => nomatch z
    · rw [upd_ne hb']; exact L.there x hx hb
  · rcases get_set_slot h with ⟨e1, e2, rfl⟩ | ⟨e1, hq⟩
    · subst e1
      rw [ea]
      exact ⟨rfl, fa, ba, vs', upd_same, p⟩
    · clear h
      have old := L.ok q t hq
      cases t with
      | no => trivial
      | val i x => exact old
      | lst i b zs =>
        obtain ⟨eb, fb, bb, ws, hb, pb⟩ := old
        have hne : b ≠ a := fun z => by
          subst z
          have eb' : σ[q]? = some (some (.ref b)) := by
            cases qq : σ[q]? with
            | none => rw [qq] at eb; cases eb
            | some o => rw [qq] at eb; rw [← eb]; rfl
          exact L.ap k q _ _ b e1 hk hq rfl rfl ea eb'
        exact ⟨eb, fb, bb, ws, by rw [upd_ne hne]; exact hb, pb⟩
  · have g : ∀ (x : Nat) s, (Γ.set k (.lst i a xs'))[x]? = some s → s.own = true → ∃ s', Γ[x]? = some s' ∧ s'.own = true := fun x s h ho => by
      rcases get_set_slot h with ⟨e1, _, _⟩ | ⟨_, h⟩
      · subst e1; exact ⟨_, hk, rfl⟩
      · exact ⟨s, h, ho⟩
    obtain ⟨t1, g1, w1⟩ := g x s1 h1 o1
    obtain ⟨t2, g2, w2⟩ := g y s2 h2 o2
    exact L.ap x y t1 t2 ad hxy g1 g2 w1 w2
end

/-! ### what a code's run asks, without a reading -/
section
variable {X : Cx} {σ : L2.St} {H : Hp}
def WE (X : Cx) (e : Expr) (σ : L2.St) (H : Hp) (Q : VK) : Prop := ∀ pins s, Inv X pins σ H s → wpAny (model X.prog X.w) X.A (eval e X.env) (EP X pins σ Q) X.xe s
def WT (X : Cx) (e : Expr) (σ : L2.St) (H : Hp) (Q : Bool → Hp → Prop) : Prop := ∀ pins s, Inv X pins σ H s → wpAny (model X.prog X.w) X.A (isTrue e X.env (eval e X.env)) (TP X pins σ Q) X.xe s
def WA (X : Cx) (es : List Expr) (σ : L2.St) (H : Hp) (Q : List V → Hp → Prop) : Prop := ∀ pos pins s, Inv X pins σ H s → wpAny (model X.prog X.w) X.A (spliced (backTo pos (starEach es X.env))) (AP X pins σ Q) X.xe s
def WP (X : Cx) (st : List Stmt) (D : Ends) (σ : L2.St) (H : Hp) : Prop := ∀ pins s, Inv X pins σ H s → wpAny (model X.prog X.w) X.A (execs st X.env) (SP X pins D) X.xe s
theorem peW {e : Expr} : PE X e (WE X e) := ⟨fun pins s _ _ _ I h => h pins s I⟩
theorem ptW {e : Expr} : PT X e (WT X e) := ⟨fun pins s _ _ _ I h => h pins s I⟩
theorem paW {es : List Expr} : PA X es (WA X es) := ⟨fun pos pins s _ _ _ I h => h pos pins s I⟩
theorem psW {st : List Stmt} : PSs X st (WP X st) := ⟨fun pins s _ _ _ I h => h pins s I⟩
theorem WE.of {e : Expr} {t : TE} {Q : VK} (p : PE X e t) (h : t σ H Q) : WE X e σ H Q := fun pins s I => p.run pins s σ H Q I h
theorem WT.of {e : Expr} {t : TT} {Q : Bool → Hp → Prop} (p : PT X e t) (h : t σ H Q) : WT X e σ H Q := fun pins s I => p.run pins s σ H Q I h
theorem WA.of {es : List Expr} {t : TA} {Q : List V → Hp → Prop} (p : PA X es t) (h : t σ H Q) : WA X es σ H Q := fun pos pins s I => p.run pos pins s σ H Q I h
theorem WP.of {st : List Stmt} {t : TS} {D : Ends} (p : PSs X st t) (h : t D σ H) : WP X st D σ H := fun pins s I => p.run pins s σ H D I h
theorem WP.cons {st : Stmt} {rest : List Stmt} {t : TS} {D : Ends} (p : PS X st t) (h : t { D with nx := fun σ' H' => WP X rest D σ' H' } σ H) : WP X (st :: rest) D σ H :=
  WP.of (pss_cons p psW) h
end

/-! ### the judgements -/
/-- what comes out: data, or a new list of one's own -/
def ROk (K : PySem.W.Frag) (H F' H' : Hp) (v : V) : Ret → Prop
  | .val i x => i.rp K F' v x
  | .new i xs => ∃ a vs, v = .ref a ∧ H a = none ∧ F' a = none ∧ H' a = some (.lst vs) ∧ Paired (fun u x => i.rp K F' u x) vs xs
def EX (X : Cx) (Γ : List Slot) (e : Expr) (P : Ret → Prop) : Prop :=
  ∀ B F H σ Q, Lc X.K B F H σ Γ → (∀ r v F' H', P r → Ext F H F' H' → ROk X.K H F' H' v r → Q v H') → WE X e σ H Q
def EV (X : Cx) (Γ : List Slot) (e : Expr) {α : Type} [i : Rep α] (x : α) : Prop :=
  ∀ B F H σ Q, Lc X.K B F H σ Γ → (∀ v F' H', Ext F H F' H' → i.rp X.K F' v x → Q v H') → WE X e σ H Q
/-- a new list -/
def EN (X : Cx) (Γ : List Slot) (e : Expr) {α : Type} [i : Rep α] (xs : List α) : Prop :=
  ∀ B F H σ Q, Lc X.K B F H σ Γ → (∀ a vs F' H', Ext F H F' H' → H a = none → F' a = none → H' a = some (.lst vs) → Paired (fun u x => i.rp X.K F' u x) vs xs → Q (.ref a) H') → WE X e σ H Q
def ET (X : Cx) (Γ : List Slot) (e : Expr) (b : Bool) : Prop :=
  ∀ B F H σ Q, Lc X.K B F H σ Γ → (∀ F' H', Ext F H F' H' → Q b H') → WT X e σ H Q
def VsOk (K : PySem.W.Frag) (F : Hp) : List V → List Slot → Prop
  | [], [] => True
  | v :: vs, .val i x :: A => i.rp K F v x ∧ VsOk K F vs A
  | _, _ => False
def EA (X : Cx) (Γ : List Slot) (es : List Expr) (A : List Slot) : Prop :=
  ∀ B F H σ Q, Lc X.K B F H σ Γ → (∀ vs F' H', Ext F H F' H' → VsOk X.K F' vs A → Q vs H') → WA X es σ H Q
theorem VsOk.mono {K : PySem.W.Frag} {F F' : Hp} (s : Same F F') : ∀ {vs : List V} {A : List Slot}, VsOk K F vs A → VsOk K F' vs A
  | [], [], _ => trivial
  | v :: vs, .val i x :: A, h => ⟨i.mono s h.1, VsOk.mono s h.2⟩
  | [], _ :: _, h => h.elim
  | _ :: _, [], h => h.elim
  | _ :: _, .no :: _, h => h.elim
  | _ :: _, .lst _ _ _ :: _, h => h.elim
theorem VsOk.len {K : PySem.W.Frag} {F : Hp} : ∀ {vs : List V} {A : List Slot}, VsOk K F vs A → vs.length = A.length
  | [], [], _ => rfl
  | v :: vs, .val i x :: A, h => by rw [List.length_cons, List.length_cons, VsOk.len h.2]
  | [], _ :: _, h => h.elim
  | _ :: _, [], h => h.elim
  | _ :: _, .no :: _, h => h.elim
  | _ :: _, .lst _ _ _ :: _, h => h.elim

/-! ### what a def promises -/
structure Exn where
  cls : Str
  why : Slot
abbrev Spec := List Slot → (Ret → Prop) → (Exn → Prop) → Prop
def XOk (K : PySem.W.Frag) (H F' H' : Hp) (u : Value) (d : Option Addr) (x : Exn) : Prop :=
  ∃ C, u = .ref C ∧ PySem.W.nsIn K mainGlobals x.cls = some (some (.ref C)) ∧
    match x.why with
    | .no => d = none
    | .val i y => ∃ dx fs w, d = some dx ∧ H dx = none ∧ F' dx = none ∧ H' dx = some (.xd fs) ∧ fs.length = 1 ∧ (fs.map (·.2)) = [w] ∧ i.rp K F' w y
    | .lst _ _ _ => False
def spOf (K : PySem.W.Frag) (S : Spec) : Sp := fun vs H Q E => ∃ F A, Same F H ∧ VsOk K F vs A ∧
  S A (fun r => ∀ v F' H', Ext F H F' H' → ROk K H F' H' v r → Q v H') (fun x => ∀ u d F' H', Ext F H F' H' → XOk K H F' H' u d x → E u d H')
/-- the def of a name keeps its promise -/
structure Has (P : Program) (w : World) (K : PySem.W.Frag) (mg : Str → Option Value) (base : Heap) (k : Nat) (n : Str) (ps : List Str) (S : Spec) : Prop where
  ex : ∃ f fd, mg n = some (.ref f) ∧ PySem.W.keepIn K (.ref f) = true ∧ Binds K fd ps [] ∧ FnOk P w K mg base (L2.CX P w) k f fd ps (spOf K S)

/-! ### statements -/
structure SE where
  nx : List Slot → Prop
  rt : Ret → Prop
  bk : List Slot → Prop
  ct : List Slot → Prop
structure ED (K : PySem.W.Frag) (B : Bs) (F0 : Hp) (E : SE) (D : Ends) : Prop where
  nx : ∀ F H σ Γ, Same F0 F → E.nx Γ → Lc K B F H σ Γ → D.nx σ H
  rt : ∀ r v F H, E.rt r → ExtM B.M B.F B.H F H → ROk K B.H F H v r → D.rt v H
  bk : ∀ F H σ Γ, Same F0 F → E.bk Γ → Lc K B F H σ Γ → D.bk σ H
  ct : ∀ F H σ Γ, Same F0 F → E.ct Γ → Lc K B F H σ Γ → D.ct σ H
theorem ED.weak {K : PySem.W.Frag} {B : Bs} {F0 F1 : Hp} {E : SE} {D : Ends} (h : ED K B F0 E D) (s : Same F0 F1) : ED K B F1 E D :=
  ⟨fun F H σ Γ q => h.nx F H σ Γ (s.trans q), h.rt, fun F H σ Γ q => h.bk F H σ Γ (s.trans q), fun F H σ Γ q => h.ct F H σ Γ (s.trans q)⟩
def ST (X : Cx) (sts : List Stmt) (Γ : List Slot) (E : SE) : Prop :=
  ∀ B F H σ D, (∀ x, ¬ B.M x) → Lc X.K B F H σ Γ → ED X.K B F E D → WP X sts D σ H
end Tw

namespace Tw
open PySem PySem.Spec PyProof.Rows L2 TL

abbrev tx (s : String) : Tx := s.toList.map Char.toNat
theorem sl_small {n : Nat} (h : n ≤ 1000) : n ≤ sizeLine := Nat.le_trans h (by decide)
theorem sx_tx (s : String) : Str.ofString s = sx (tx s) := ext_tl (by rw [tl_ofString]; rfl)

section
variable {X : Cx} {Γ : List Slot} {α β γ : Type} {i : Rep α} {j : Rep β} {l : Rep γ} {pos p : Pos} {e a b c : Expr} {es : List Expr}

/-! ### passing from one to another -/
theorem ev_of_ex {x : α} (h : EX X Γ e fun r => r = .val i x) : EV X Γ e x := fun B F H σ Q L q =>
  h B F H σ Q L fun r v F' H' er ex ok => by subst er; exact q v F' H' ex ok
theorem en_of_ex {xs : List α} (h : EX X Γ e fun r => r = .new i xs) : EN X Γ e xs := fun B F H σ Q L q =>
  h B F H σ Q L fun r v F' H' er ex ok => by
    subst er
    obtain ⟨a, vs, rfl, h1, h2, h3, h4⟩ := ok
    exact q a vs F' H' ex h1 h2 h3 h4
theorem ev_of_en {xs : List α} (h : EN X Γ e xs) : EV X Γ e xs := fun B F H σ Q L q =>
  h B F H σ Q L fun a vs F' H' ex ha fa h' p => by
    have sm : Same F' (upd F' a (.lst vs)) := fun b u e => by rw [upd_ne (ne_of_none e fa)]; exact e
    refine q (.ref a) (upd F' a (.lst vs)) H' ⟨ex.ff.trans sm, fun b u e => ?_, ex.hh, fun b h1 h2 => ?_⟩ ⟨a, vs, rfl, upd_same, Paired.mapP p fun _ _ q => i.mono sm q⟩
    · by_cases hb : b = a
      · subst hb; rw [upd_same] at e; rw [← e]; exact h'
      · rw [upd_ne hb] at e; exact ex.fh _ _ e
    · rw [upd_ne (fun z => by subst z; exact h2 ha)]; exact ex.nw b h1 h2
theorem ex_of_ev {x : α} {P : Ret → Prop} (h : EV X Γ e x) (hp : P (.val i x)) : EX X Γ e P := fun B F H σ Q L q =>
  h B F H σ Q L fun v F' H' ex r => q (.val i x) v F' H' hp ex r
theorem ex_of_en {xs : List α} {P : Ret → Prop} (h : EN X Γ e xs) (hp : P (.new i xs)) : EX X Γ e P := fun B F H σ Q L q =>
  h B F H σ Q L fun a vs F' H' ex ha fa h' p => q (.new i xs) (.ref a) F' H' hp ex ⟨a, vs, rfl, ha, fa, h', p⟩
theorem ev_eq {x y : α} (h : EV X Γ e x) (q : x = y) : EV X Γ e y := q ▸ h
theorem en_eq {x y : List α} (h : EN X Γ e x) (q : x = y) : EN X Γ e y := q ▸ h
theorem et_eq {x y : Bool} (h : ET X Γ e x) (q : x = y) : ET X Γ e y := q ▸ h
theorem et_val {k : Bool} (h : EV X Γ e k) (he : ∀ whole, isTrue e X.env whole = (do let v ← whole; standAt e.pos; holding [v] (truthy v)) := by intro _; rfl) : ET X Γ e k := fun B F H σ Q L q =>
  WT.of (pt_val peW he) (h B F H σ _ L fun v F' H' ex r => ⟨k, r, q F' H' ex⟩)

/-! ### names, constants -/
theorem ev_var (k : Nat) {n : Str} {x : α} (hN : X.N[k]? = some n := by rfl) (hv : Vis X.env.scope n := by first | exact Or.inl rfl | exact Or.inr (Or.inl rfl) | exact Or.inr (Or.inr rfl)) (hd : (n == ("__debug__" : Str)) = false := by decide)
    (hcd : (n == ("__classdict__" : Str)) = false := by decide) (hg : Γ[k]? = some (.val i x) := by rfl) : EV X Γ (.Name n pos) x := fun B F H σ Q L q => by
  obtain ⟨v, e1, r⟩ := slot_val L hg
  exact WE.of (pe_var hN hv hd hcd) ⟨v, e1, q v F H (Ext.refl L.same) r⟩
theorem ev_int {z : Int} {k} : EV X Γ (.Constant (.int z) k pos) z := fun B F H σ Q L q => WE.of pe_int (q _ F H (Ext.refl L.same) rfl)
theorem ev_bl {z : Bool} {k} : EV X Γ (.Constant (.bool z) k pos) z := fun B F H σ Q L q => WE.of pe_bl (q _ F H (Ext.refl L.same) rfl)
theorem ev_non {k} : EV X Γ (.Constant .none k pos) () := fun B F H σ Q L q => WE.of pe_non (q _ F H (Ext.refl L.same) rfl)
theorem ev_nonO {k} : EV X Γ (.Constant .none k pos) (none : Option α) := fun B F H σ Q L q => WE.of pe_non (q _ F H (Ext.refl L.same) rfl)
theorem ev_some {x : α} (h : EV X Γ e x) : EV X Γ e (some x) := fun B F H σ Q L q => h B F H σ Q L fun v F' H' ex r => q v F' H' ex r
theorem ev_str (s : String) {k} : EV X Γ (.Constant (.str (Str.ofString s)) k pos) (tx s) := fun B F H σ Q L q => WE.of pe_str (q _ F H (Ext.refl L.same) (congrArg V.str (sx_tx s)))
theorem ev_gint {n : Str} {z : Int} {t : Tok} (hm : X.mg n = some (.int z t)) (hg : Gl X n := by rfl) (hd : (n == ("__debug__" : Str)) = false := by decide) : EV X Γ (.Name n pos) z := fun B F H σ Q L q =>
  WE.of (pe_glob (v := .int z) hg hm ⟨t, rfl⟩ hd) (q _ F H (Ext.refl L.same) rfl)
theorem ev_gstr {n : Str} (s : String) {t : Tok} (hm : X.mg n = some (.str (Str.ofString s) t)) (hg : Gl X n := by rfl) (hd : (n == ("__debug__" : Str)) = false := by decide) : EV X Γ (.Name n pos) (tx s) := fun B F H σ Q L q =>
  WE.of (pe_glob (v := .str (Str.ofString s)) hg hm ⟨t, rfl⟩ hd) (q _ F H (Ext.refl L.same) (congrArg V.str (sx_tx s)))

/-! ### operators by values -/
/-- the largest rule of an operation -/
def rW (X : Cx) (f : Value → Value → Sem Value) : R2 := fun x y H Q => ∀ pins s σ v u, Inv X pins σ H s → RelV x v → RelV y u → wpAny (model X.prog X.w) X.A (f v u) (EP X pins σ Q) X.xe s
theorem opW {f : Value → Value → Sem Value} : OpR X f (rW X f) := fun pins s σ H x y v u Q I r1 r2 h => h pins s σ v u I r1 r2
/-- a binary operation on x, y gives z -/
def OB (X : Cx) (f : Value → Value → Sem Value) {α β γ : Type} [i : Rep α] [j : Rep β] [l : Rep γ] (x : α) (y : β) (z : γ) : Prop :=
  ∀ F H v u Q, Same F H → i.rp X.K F v x → j.rp X.K F u y → (∀ w F' H', Ext F H F' H' → l.rp X.K F' w z → Q w H') → rW X f v u H Q
theorem ob_flat {f : Value → Value → Sem Value} {x : α} {y : β} {z : γ} {r : R2} (o : OpR X f r)
    (h : ∀ F H v u Q, Same F H → i.rp X.K F v x → j.rp X.K F u y → (∀ w, l.rp X.K F w z → Q w H) → r v u H Q) : OB X f x y z :=
  fun F H v u Q s r1 r2 q pins s' σ v' u' I rv ru => o pins s' σ H v u v' u' Q I rv ru (h F H v u Q s r1 r2 fun w hw => q w F H (Ext.refl s) hw)
theorem ev_bin {op : Operator} {x : α} {y : β} {z : γ} (o : OB X (binaryOp op) x y z) (ha : EV X Γ a x) (hb : EV X Γ b y) : EV X Γ (.BinOp a op b pos) z := fun B F H σ Q L q =>
  WE.of (pe_op opW peW peW) (ha B F H σ _ L fun v F1 H1 e1 r1 => hb B F1 H1 σ _ (L.step e1) fun u F2 H2 e2 r2 =>
    o F2 H2 v u Q (L.step (e1.trans e2)).same (i.mono e2.ff r1) r2 fun w F3 H3 e3 r3 => q w F3 H3 ((e1.trans e2).trans e3) r3)
theorem ev_cmp {op : CmpOp} {x : α} {y : β} {z : Bool} (o : OB X (compareOp op) x y z) (ha : EV X Γ a x) (hb : EV X Γ b y) (hm : behindInMarks op b = false := by first | exact nomark _ | rfl) : EV X Γ (.Compare a [op] [b] pos) z := fun B F H σ Q L q =>
  WE.of (pe_cmpR opW peW peW hm) (ha B F H σ _ L fun v F1 H1 e1 r1 => hb B F1 H1 σ _ (L.step e1) fun u F2 H2 e2 r2 =>
    o F2 H2 v u Q (L.step (e1.trans e2)).same (i.mono e2.ff r1) r2 fun w F3 H3 e3 r3 => q w F3 H3 ((e1.trans e2).trans e3) r3)
theorem et_cmp {op : CmpOp} {x : α} {y : β} {z : Bool} (o : OB X (compareOp op) x y z) (ha : EV X Γ a x) (hb : EV X Γ b y) (hm : behindInMarks op b = false := by first | exact nomark _ | rfl) : ET X Γ (.Compare a [op] [b] pos) z := fun B F H σ Q L q =>
  WT.of (pt_cmpR opW peW peW hm) (ha B F H σ _ L fun v F1 H1 e1 r1 => hb B F1 H1 σ _ (L.step e1) fun u F2 H2 e2 r2 =>
    o F2 H2 v u _ (L.step (e1.trans e2)).same (i.mono e2.ff r1) r2 fun w F3 H3 e3 r3 => ⟨z, r3, q F3 H3 ((e1.trans e2).trans e3)⟩)
/-- a < b < c -/
theorem ev_chain {op op' : CmpOp} {x : α} {y : β} {w : γ} {k k' : Bool} (o : OB X (compareOp op) x y k) (o' : k = true → OB X (compareOp op') y w k') (ha : EV X Γ a x) (hb : EV X Γ b y) (hc : k = true → EV X Γ c w)
    (hm : lastMarks [op, op'] [b, c] = false := by with_unfolding_all rfl) : EV X Γ (.Compare a [op, op'] [b, c] pos) (k && k') := fun B F H σ Q L q =>
  WE.of (pe_chain opW opW peW peW peW hm) (ha B F H σ _ L fun v F1 H1 e1 r1 => hb B F1 H1 σ _ (L.step e1) fun u F2 H2 e2 r2 =>
    o F2 H2 v u _ (L.step (e1.trans e2)).same (i.mono e2.ff r1) r2 fun z F3 H3 e3 r3 => ⟨k, r3, by
      have e123 := (e1.trans e2).trans e3
      cases k with
      | false => exact q _ F3 H3 e123 rfl
      | true => exact hc rfl B F3 H3 σ _ (L.step e123) fun t F4 H4 e4 r4 => o' rfl F4 H4 u t Q (L.step (e123.trans e4)).same (j.mono (e3.trans e4).ff r2) r4 fun w F5 H5 e5 r5 => q w F5 H5 ((e123.trans e4).trans e5) (by rw [Bool.true_and]; exact r5)⟩)
theorem et_chain {op op' : CmpOp} {x : α} {y : β} {w : γ} {k k' : Bool} (o : OB X (compareOp op) x y k) (o' : k = true → OB X (compareOp op') y w k') (ha : EV X Γ a x) (hb : EV X Γ b y) (hc : k = true → EV X Γ c w)
    (hm : lastMarks [op, op'] [b, c] = false := by with_unfolding_all rfl) : ET X Γ (.Compare a [op, op'] [b, c] pos) (k && k') := fun B F H σ Q L q =>
  WT.of (pt_chain opW opW peW peW peW hm) (ha B F H σ _ L fun v F1 H1 e1 r1 => hb B F1 H1 σ _ (L.step e1) fun u F2 H2 e2 r2 =>
    o F2 H2 v u _ (L.step (e1.trans e2)).same (i.mono e2.ff r1) r2 fun z F3 H3 e3 r3 => ⟨k, r3, by
      have e123 := (e1.trans e2).trans e3
      cases k with
      | false => exact ⟨false, rfl, q F3 H3 e123⟩
      | true => exact hc rfl B F3 H3 σ _ (L.step e123) fun t F4 H4 e4 r4 => o' rfl F4 H4 u t _ (L.step (e123.trans e4)).same (j.mono (e3.trans e4).ff r2) r4 fun w F5 H5 e5 r5 => ⟨k', r5, by rw [Bool.true_and] at q; exact q F5 H5 ((e123.trans e4).trans e5)⟩⟩)

/-! ### whole numbers -/
theorem ob_I {f : Value → Value → Sem Value} {C : Int → Int → Prop} {g : Int → Int → Int} {x y : Int} (o : OpR X f (rI C fun i j => .int (g i j))) (h : C x y) : OB X f x y (g x y) :=
  ob_flat o fun F H v u Q s r1 r2 q => ⟨x, y, r1, r2, h, q _ rfl⟩
theorem ob_I0 {f : Value → Value → Sem Value} {g : Int → Int → Int} {x y : Int} (o : OpR X f (rI0 fun i j => .int (g i j))) : OB X f x y (g x y) :=
  ob_flat o fun F H v u Q s r1 r2 q => ⟨x, y, r1, r2, q _ rfl⟩
theorem ob_B0 {f : Value → Value → Sem Value} {g : Int → Int → Bool} {x y : Int} (o : OpR X f (rI0 fun i j => .bl (g i j))) : OB X f x y (g x y) :=
  ob_flat o fun F H v u Q s r1 r2 q => ⟨x, y, r1, r2, q _ rfl⟩
theorem o_add {x y : Int} : OB X (binaryOp .Add) x y (x + y) := ob_I0 op_add
theorem o_sub {x y : Int} : OB X (binaryOp .Sub) x y (x - y) := ob_I0 op_sub
theorem o_mul {x y : Int} (h : CMul x y) : OB X (binaryOp .Mult) x y (x * y) := ob_I op_mul h
theorem o_mod {x y : Int} (h : 0 < y) : OB X (binaryOp .Mod) x y (x % y) := ob_I op_mod h
theorem o_div {x y : Int} (h : CDivW x y) : OB X (binaryOp .FloorDiv) x y (x / y) := ob_I op_fdivW h
theorem o_lt {x y : Int} : OB X (compareOp .Lt) x y (decide (x < y)) := ob_B0 op_lt
theorem o_le {x y : Int} : OB X (compareOp .LtE) x y (decide (x ≤ y)) := ob_B0 op_le
theorem o_gt {x y : Int} : OB X (compareOp .Gt) x y (decide (y < x)) := ob_B0 op_gt
theorem o_ge {x y : Int} : OB X (compareOp .GtE) x y (decide (y ≤ x)) := ob_B0 op_ge
theorem o_eq {x y : Int} : OB X (compareOp .Eq) x y (decide (x = y)) := ob_flat op_eq fun F H v u Q s r1 r2 q => by
  obtain rfl : v = .int x := r1
  obtain rfl : u = .int y := r2
  exact ⟨rfl, q _ (show V.bl _ = V.bl _ by rw [dec_int, Bool.beq_eq_decide_eq])⟩
theorem o_ne {x y : Int} : OB X (compareOp .NotEq) x y (!decide (x = y)) := ob_flat op_ne fun F H v u Q s r1 r2 q => by
  obtain rfl : v = .int x := r1
  obtain rfl : u = .int y := r2
  exact ⟨rfl, q _ (show V.bl _ = V.bl _ by rw [dec_int, Bool.beq_eq_decide_eq])⟩
theorem dec_sx {x y : Tx} : decide (V.str (sx x) = V.str (sx y)) = decide (x = y) := by
  by_cases h : x = y
  · subst h; rw [decide_eq_true rfl, decide_eq_true rfl]
  · rw [decide_eq_false h, decide_eq_false fun z => h (sx_inj (V.str.inj z))]
theorem o_eqS {x y : Tx} : OB X (compareOp .Eq) x y (decide (x = y)) := ob_flat op_eq fun F H v u Q s r1 r2 q => by
  obtain rfl : v = .str (sx x) := r1
  obtain rfl : u = .str (sx y) := r2
  exact ⟨rfl, q _ (show V.bl _ = V.bl _ by rw [dec_sx])⟩
theorem o_neS {x y : Tx} : OB X (compareOp .NotEq) x y (!decide (x = y)) := ob_flat op_ne fun F H v u Q s r1 r2 q => by
  obtain rfl : v = .str (sx x) := r1
  obtain rfl : u = .str (sx y) := r2
  exact ⟨rfl, q _ (show V.bl _ = V.bl _ by rw [dec_sx])⟩
theorem o_neB {x y : Bool} : OB X (compareOp .NotEq) x y (!decide (x = y)) := ob_flat op_ne fun F H v u Q s r1 r2 q => by
  obtain rfl : v = .bl x := r1
  obtain rfl : u = .bl y := r2
  exact ⟨rfl, q _ (show V.bl _ = V.bl _ by rw [dec_bl, Bool.beq_eq_decide_eq])⟩
theorem o_eqB {x y : Bool} : OB X (compareOp .Eq) x y (decide (x = y)) := ob_flat op_eq fun F H v u Q s r1 r2 q => by
  obtain rfl : v = .bl x := r1
  obtain rfl : u = .bl y := r2
  exact ⟨rfl, q _ (show V.bl _ = V.bl _ by rw [dec_bl, Bool.beq_eq_decide_eq])⟩
theorem o_addS {x y : Tx} (h : x.length + y.length ≤ sizeLine) : OB X (binaryOp .Add) x y (x ++ y) := ob_flat op_add_str fun F H v u Q s r1 r2 q => by
  obtain rfl : v = .str (sx x) := r1
  obtain rfl : u = .str (sx y) := r2
  exact ⟨_, _, rfl, rfl, by rw [sx_len, sx_len]; exact h, q _ (by rw [sx_app]; rfl)⟩
theorem ev_neg {x : Int} (h : EV X Γ a x) : EV X Γ (.UnaryOp .USub a pos) (-x) := fun B F H σ Q L q =>
  WE.of (pe_un un_neg peW) (h B F H σ _ L fun v F1 H1 e1 r1 => ⟨x, r1, q _ F1 H1 e1 rfl⟩)

/-! ### and, or, not, if -/
theorem et_not {k : Bool} (h : ET X Γ a k) : ET X Γ (.UnaryOp .Not a pos) (!k) := fun B F H σ Q L q =>
  WT.of (pt_not ptW) (h B F H σ _ L fun F1 H1 e1 => q F1 H1 e1)
theorem ev_not {k : Bool} (h : EV X Γ a k) : EV X Γ (.UnaryOp .Not a pos) (!k) := fun B F H σ Q L q =>
  WE.of (pe_not peW) (h B F H σ _ L fun v F1 H1 e1 r1 => ⟨k, r1, q _ F1 H1 e1 rfl⟩)
/-- a test whatever its whole is -/
def WW (X : Cx) (e : Expr) (σ : L2.St) (H : Hp) (Q : Bool → Hp → Prop) : Prop := ∀ whole pins s, Inv X pins σ H s → wpAny (model X.prog X.w) X.A (isTrue e X.env whole) (TP X pins σ Q) X.xe s
theorem pwW : PW X e (WW X e) := ⟨fun whole pins s _ _ _ I h => h whole pins s I⟩
def EW (X : Cx) (Γ : List Slot) (e : Expr) (k : Bool) : Prop := ∀ B F H σ Q, Lc X.K B F H σ Γ → (∀ F' H', Ext F H F' H' → Q k H') → WW X e σ H Q
theorem WW.of {t : TT} {σ : L2.St} {H : Hp} {Q : Bool → Hp → Prop} (p : PW X e t) (h : t σ H Q) : WW X e σ H Q := fun whole pins s I => p.run whole pins s σ H Q I h
theorem et_w {k : Bool} (h : EW X Γ e k) : ET X Γ e k := fun B F H σ Q L q => WT.of (PW.pt pwW) (h B F H σ Q L q)
theorem ew_and1 {k : Bool} (h : ET X Γ a k) : EW X Γ (.BoolOp .And [a] pos) k := fun B F H σ Q L q => WW.of (pw_and1 ptW) (h B F H σ Q L q)
theorem ew_or1 {k : Bool} (h : ET X Γ a k) : EW X Γ (.BoolOp .Or [a] pos) k := fun B F H σ Q L q => WW.of (pw_or1 ptW) (h B F H σ Q L q)
theorem ew_and {k m : Bool} (ha : ET X Γ a k) (hb : k = true → EW X Γ (.BoolOp .And (b :: es) pos) m) : EW X Γ (.BoolOp .And (a :: b :: es) pos) (k && m) := fun B F H σ Q L q =>
  WW.of (pw_and ptW pwW) (ha B F H σ _ L fun F1 H1 e1 => by
    cases k with
    | true => exact hb rfl B F1 H1 σ Q (L.step e1) fun F2 H2 e2 => by rw [Bool.true_and] at q; exact q F2 H2 (e1.trans e2)
    | false => exact q F1 H1 e1)
theorem ew_or {k m : Bool} (ha : ET X Γ a k) (hb : k = false → EW X Γ (.BoolOp .Or (b :: es) pos) m) : EW X Γ (.BoolOp .Or (a :: b :: es) pos) (k || m) := fun B F H σ Q L q =>
  WW.of (pw_or ptW pwW) (ha B F H σ _ L fun F1 H1 e1 => by
    cases k with
    | false => exact hb rfl B F1 H1 σ Q (L.step e1) fun F2 H2 e2 => by rw [Bool.false_or] at q; exact q F2 H2 (e1.trans e2)
    | true => exact q F1 H1 e1)
theorem et_and {k m : Bool} (ha : ET X Γ a k) (hb : k = true → ET X Γ b m) : ET X Γ (.BoolOp .And [a, b] pos) (k && m) := et_w (ew_and ha fun h => ew_and1 (hb h))
theorem et_or {k m : Bool} (ha : ET X Γ a k) (hb : k = false → ET X Γ b m) : ET X Γ (.BoolOp .Or [a, b] pos) (k || m) := et_w (ew_or ha fun h => ew_or1 (hb h))
theorem et_and3 {k m n : Bool} (ha : ET X Γ a k) (hb : k = true → ET X Γ b m) (hc : k = true → m = true → ET X Γ c n) : ET X Γ (.BoolOp .And [a, b, c] pos) (k && (m && n)) := et_w (ew_and ha fun h => ew_and (hb h) fun h2 => ew_and1 (hc h h2))
theorem et_or3 {k m n : Bool} (ha : ET X Γ a k) (hb : k = false → ET X Γ b m) (hc : k = false → m = false → ET X Γ c n) : ET X Γ (.BoolOp .Or [a, b, c] pos) (k || (m || n)) := et_w (ew_or ha fun h => ew_or (hb h) fun h2 => ew_or1 (hc h h2))
/-- .. as values -/
theorem ev_one {op} {x : α} (h : EV X Γ a x) : EV X Γ (.BoolOp op [a] pos) x := fun B F H σ Q L q => WE.of (pe_one peW) (h B F H σ Q L q)
theorem ev_and {k m : Bool} (ha : EV X Γ a k) (hb : k = true → EV X Γ (.BoolOp .And (b :: es) pos) m) : EV X Γ (.BoolOp .And (a :: b :: es) pos) (k && m) := fun B F H σ Q L q =>
  WE.of (pe_and peW peW) (ha B F H σ _ L fun v F1 H1 e1 r1 => ⟨k, r1, by
    cases k with
    | true => exact hb rfl B F1 H1 σ Q (L.step e1) fun v F2 H2 e2 r2 => by rw [Bool.true_and] at q; exact q v F2 H2 (e1.trans e2) r2
    | false => exact q _ F1 H1 e1 rfl⟩)
theorem ev_or {k m : Bool} (ha : EV X Γ a k) (hb : k = false → EV X Γ (.BoolOp .Or (b :: es) pos) m) : EV X Γ (.BoolOp .Or (a :: b :: es) pos) (k || m) := fun B F H σ Q L q =>
  WE.of (pe_or peW peW) (ha B F H σ _ L fun v F1 H1 e1 r1 => ⟨k, r1, by
    cases k with
    | false => exact hb rfl B F1 H1 σ Q (L.step e1) fun v F2 H2 e2 r2 => by rw [Bool.false_or] at q; exact q v F2 H2 (e1.trans e2) r2
    | true => exact q _ F1 H1 e1 rfl⟩)
theorem ev_and2 {k m : Bool} (ha : EV X Γ a k) (hb : k = true → EV X Γ b m) : EV X Γ (.BoolOp .And [a, b] pos) (k && m) := ev_and ha fun h => ev_one (hb h)
theorem ev_or2 {k m : Bool} (ha : EV X Γ a k) (hb : k = false → EV X Γ b m) : EV X Γ (.BoolOp .Or [a, b] pos) (k || m) := ev_or ha fun h => ev_one (hb h)
theorem ev_ifExp {k : Bool} {x y : α} (hc : ET X Γ c k) (ha : k = true → EV X Γ a x) (hb : k = false → EV X Γ b y) : EV X Γ (.IfExp c a b pos) (if k then x else y) := fun B F H σ Q L q =>
  WE.of (pe_ifExp ptW peW peW) (hc B F H σ _ L fun F1 H1 e1 => by
    cases k with
    | true => exact ha rfl B F1 H1 σ Q (L.step e1) fun v F2 H2 e2 r2 => q v F2 H2 (e1.trans e2) r2
    | false => exact hb rfl B F1 H1 σ Q (L.step e1) fun v F2 H2 e2 r2 => q v F2 H2 (e1.trans e2) r2)

/-! ### arguments, displays -/
theorem ea_nil : EA X Γ [] [] := fun B F H σ Q L q => WA.of pa_nil (q [] F H (Ext.refl L.same) trivial)
theorem ea_cons {x : α} {A : List Slot} (h : EV X Γ e x) (hr : EA X Γ es A) (hs : starEach (e :: es) X.env = (false, eval e X.env) :: starEach es X.env := by rfl) : EA X Γ (e :: es) (.val i x :: A) := fun B F H σ Q L q =>
  WA.of (pa_cons peW paW hs) (h B F H σ _ L fun v F1 H1 e1 r1 => hr B F1 H1 σ _ (L.step e1) fun vs F2 H2 e2 r2 => q (v :: vs) F2 H2 (e1.trans e2) ⟨i.mono e2.ff r1, r2⟩)
/-- like things in a row -/
def EAs (X : Cx) (Γ : List Slot) (es : List Expr) {α : Type} [i : Rep α] (xs : List α) : Prop :=
  ∀ B F H σ Q, Lc X.K B F H σ Γ → (∀ vs F' H', Ext F H F' H' → Paired (fun u x => i.rp X.K F' u x) vs xs → Q vs H') → WA X es σ H Q
theorem es_nil : EAs X Γ [] ([] : List α) := fun B F H σ Q L q => WA.of pa_nil (q [] F H (Ext.refl L.same) .nil)
theorem es_cons {x : α} {xs : List α} (h : EV X Γ e x) (hr : EAs X Γ es xs) (hs : starEach (e :: es) X.env = (false, eval e X.env) :: starEach es X.env := by rfl) : EAs X Γ (e :: es) (x :: xs) := fun B F H σ Q L q =>
  WA.of (pa_cons peW paW hs) (h B F H σ _ L fun v F1 H1 e1 r1 => hr B F1 H1 σ _ (L.step e1) fun vs F2 H2 e2 r2 => q (v :: vs) F2 H2 (e1.trans e2) (.cons (i.mono e2.ff r1) r2))
theorem en_lst {xs : List α} (h : EAs X Γ es xs) (hz : xs.length ≤ sizeLine := by exact sl_small (by simp)) : EN X Γ (.List es pos) xs := fun B F H σ Q L q =>
  WE.of (pe_lst paW) (h B F H σ _ L fun vs F1 H1 e1 r1 => ⟨by rw [Paired.length r1]; exact hz, fun p hp => by
    have s1 := (L.step e1).same
    have ea := Ext.apart (o := .lst vs) s1 hp
    exact q p vs F1 _ (e1.trans ea) (e1.hs.free hp) (s1.free hp) upd_same r1⟩)
theorem ev_tupH {x1} {xs : List α} (h : EAs X Γ es xs) (hz : xs.length ≤ sizeLine := by exact sl_small (by simp)) : EV X Γ (.Tuple es x1 pos) (Tup.mk xs) := fun B F H σ Q L q =>
  WE.of (pe_tup paW) (h B F H σ _ L fun vs F1 H1 e1 r1 => ⟨by rw [Paired.length r1]; exact hz, fun p hp => by
    have s1 := (L.step e1).same
    have ea := Ext.new (o := .tup vs) s1 hp
    exact q (.ref p) _ _ (e1.trans ea) ⟨p, vs, rfl, upd_same, Paired.mapP r1 fun _ _ z => i.mono ea.ff z⟩⟩)
theorem ev_pair {x1} {x : α} {y : β} (ha : EV X Γ a x) (hb : EV X Γ b y) (hs : starEach [a, b] X.env = (false, eval a X.env) :: starEach [b] X.env := by rfl) (hs2 : starEach [b] X.env = (false, eval b X.env) :: starEach [] X.env := by rfl) : EV X Γ (.Tuple [a, b] x1 pos) (x, y) := fun B F H σ Q L q =>
  WE.of (pe_tup paW) (ea_cons ha (ea_cons hb ea_nil hs2) hs B F H σ _ L fun vs F1 H1 e1 r1 => by
    match vs, r1 with
    | [v, u], ⟨h1, h2, _⟩ =>
      exact ⟨by show 2 ≤ sizeLine; decide, fun p hp => by
        have s1 := (L.step e1).same
        have ea := Ext.new (o := .tup [v, u]) s1 hp
        exact q (.ref p) _ _ (e1.trans ea) ⟨p, v, u, rfl, upd_same, i.mono ea.ff h1, j.mono ea.ff h2⟩⟩)

/-! ### sequences -/
theorem sq_of {K : PySem.W.Frag} {F H : Hp} (s : Same F H) {a : Addr} {vs : List V} (h : F a = some (.lst vs)) : SqL K H a vs := .inl (.inl (s _ _ h))
theorem st_of {K : PySem.W.Frag} {F H : Hp} (s : Same F H) {a : Addr} {vs : List V} (h : F a = some (.tup vs)) : SqT K H a vs := .inl (.inl (s _ _ h))
/-- a call of a built-in with one argument -/
theorem ev_callB1 {n : Str} {id : String} {x : α} {z : β} {r : List V → Hp → VK → Prop} (hc : CallR X (.builtin id) r) (hm : X.mg n = none) (hv : bootBuiltins n = some (.builtin id)) (h : EV X Γ e x)
    (hr : ∀ F H v Q, Same F H → i.rp X.K F v x → (∀ w F' H', Ext F H F' H' → j.rp X.K F' w z → Q w H') → r [v] H Q) (hg : Gl X n := by rfl) (hn : n ≠ "__name__" := by decide) (hd : (n == ("__debug__" : Str)) = false := by decide)
    (hs : starEach [e] X.env = (false, eval e X.env) :: starEach [] X.env := by rfl) (hpl : (backTo pos (starEach [] X.env)).any (·.1) = false := by rfl) : EV X Γ (.Call (.Name n p) [e] [] pos) z := fun B F H σ Q L q =>
  WE.of (pe_callB hc hg hm hv (pa_cons peW pa_nil hs) hn hd hs hpl) (h B F H σ _ L fun v F1 H1 e1 r1 => hr F1 H1 v Q (L.step e1).same r1 fun w F2 H2 e2 r2 => q w F2 H2 (e1.trans e2) r2)
theorem ev_callT1 {n : Str} {id : String} {x : α} {z : β} {r : List V → Hp → VK → Prop} (hc : CallR X (.type id) r) (hm : X.mg n = none) (hv : bootBuiltins n = some (.type id)) (h : EV X Γ e x)
    (hr : ∀ F H v Q, Same F H → i.rp X.K F v x → (∀ w F' H', Ext F H F' H' → j.rp X.K F' w z → Q w H') → r [v] H Q) (hg : Gl X n := by rfl) (hn : n ≠ "__name__" := by decide) (hd : (n == ("__debug__" : Str)) = false := by decide)
    (hs : starEach [e] X.env = (false, eval e X.env) :: starEach [] X.env := by rfl) (hpl : (backTo pos (starEach [] X.env)).any (·.1) = false := by rfl) : EV X Γ (.Call (.Name n p) [e] [] pos) z := fun B F H σ Q L q =>
  WE.of (pe_callTy hc hg hm hv (pa_cons peW pa_nil hs) hn hd hs hpl) (h B F H σ _ L fun v F1 H1 e1 r1 => hr F1 H1 v Q (L.step e1).same r1 fun w F2 H2 e2 r2 => q w F2 H2 (e1.trans e2) r2)
theorem ev_len {xs : List α} (hm : X.mg "len" = none) (h : EV X Γ e xs) (hg : Gl X "len" := by rfl) (hs : starEach [e] X.env = (false, eval e X.env) :: starEach [] X.env := by rfl) (hpl : (backTo pos (starEach [] X.env)).any (·.1) = false := by rfl) :
    EV X Γ (.Call (.Name "len" p) [e] [] pos) (xs.length : Int) :=
  ev_callB1 call_len_seq hm PySem.boot_len h (fun F H v Q s r q => by
    obtain ⟨a, vs, rfl, ha, pr⟩ := r
    exact ⟨a, vs, rfl, .inl (sq_of s ha), q _ F H (Ext.refl s) (by rw [Paired.length pr]; rfl)⟩) hg (by decide) (by decide) hs hpl
theorem ev_lenT {xs : Tup α} (hm : X.mg "len" = none) (h : EV X Γ e xs) (hg : Gl X "len" := by rfl) (hs : starEach [e] X.env = (false, eval e X.env) :: starEach [] X.env := by rfl) (hpl : (backTo pos (starEach [] X.env)).any (·.1) = false := by rfl) :
    EV X Γ (.Call (.Name "len" p) [e] [] pos) (xs.l.length : Int) :=
  ev_callB1 call_len_seq hm PySem.boot_len h (fun F H v Q s r q => by
    obtain ⟨a, vs, rfl, ha, pr⟩ := r
    exact ⟨a, vs, rfl, .inr (st_of s ha), q _ F H (Ext.refl s) (by rw [Paired.length pr]; rfl)⟩) hg (by decide) (by decide) hs hpl
theorem ev_lenScr {xs : Scr} (hm : X.mg "len" = none) (h : EV X Γ e xs) (hg : Gl X "len" := by rfl) (hs : starEach [e] X.env = (false, eval e X.env) :: starEach [] X.env := by rfl) (hpl : (backTo pos (starEach [] X.env)).any (·.1) = false := by rfl) :
    EV X Γ (.Call (.Name "len" p) [e] [] pos) (xs.l.length : Int) :=
  ev_callB1 call_len_seq hm PySem.boot_len h (fun F H v Q s r q => by
    obtain ⟨a, rfl, ha⟩ := r
    exact ⟨a, _, rfl, .inl (s.seq ha), q _ F H (Ext.refl s) (by rw [List.length_map]; rfl)⟩) hg (by decide) (by decide) hs hpl
theorem ev_lenS {x : Tx} (hm : X.mg "len" = none) (h : EV X Γ e x) (hz : x.length ≤ sizeLine) (hg : Gl X "len" := by rfl) (hs : starEach [e] X.env = (false, eval e X.env) :: starEach [] X.env := by rfl) (hpl : (backTo pos (starEach [] X.env)).any (·.1) = false := by rfl) :
    EV X Γ (.Call (.Name "len" p) [e] [] pos) (x.length : Int) :=
  ev_callB1 call_len_str hm PySem.boot_len h (fun F H v Q s r q => ⟨sx x, by rw [show v = V.str (sx x) from r], by rw [sx_len]; exact hz, q _ F H (Ext.refl s) (by rw [sx_len]; rfl)⟩) hg (by decide) (by decide) hs hpl
theorem ev_ixL {xs : List α} {n : Int} {x : α} (ha : EV X Γ a xs) (hb : EV X Γ b n) (hx : atI xs n = some x) (hp : PlainIx b := by intro _ _; rfl) : EV X Γ (.Subscript a b pos) x := fun B F H σ Q L q =>
  WE.of (pe_ix ix_list peW peW hp) (ha B F H σ _ L fun v F1 H1 e1 r1 => hb B F1 H1 σ _ (L.step e1) fun u F2 H2 e2 r2 => by
    obtain ⟨ad, vs, rfl, h1, pr⟩ := r1
    obtain ⟨k, hk, hx⟩ := Option.bind_eq_some_iff.mp hx
    obtain ⟨w, hw, rw'⟩ := pgetL pr hx
    have s2 := (L.step (e1.trans e2)).same
    exact ⟨ad, vs, n, w, rfl, r2, sq_of s2 (e2.ff _ _ h1), by unfold atI; rw [Paired.length pr, hk]; exact hw, q w F2 H2 (e1.trans e2) (i.mono e2.ff rw')⟩)
theorem ev_ixT {xs : Tup α} {n : Int} {x : α} (ha : EV X Γ a xs) (hb : EV X Γ b n) (hx : atI xs.l n = some x) (hp : PlainIx b := by intro _ _; rfl) : EV X Γ (.Subscript a b pos) x := fun B F H σ Q L q =>
  WE.of (pe_ix ix_tup peW peW hp) (ha B F H σ _ L fun v F1 H1 e1 r1 => hb B F1 H1 σ _ (L.step e1) fun u F2 H2 e2 r2 => by
    obtain ⟨ad, vs, rfl, h1, pr⟩ := r1
    obtain ⟨k, hk, hx⟩ := Option.bind_eq_some_iff.mp hx
    obtain ⟨w, hw, rw'⟩ := pgetL pr hx
    have s2 := (L.step (e1.trans e2)).same
    exact ⟨ad, vs, n, w, rfl, r2, st_of s2 (e2.ff _ _ h1), by unfold atI; rw [Paired.length pr, hk]; exact hw, q w F2 H2 (e1.trans e2) (i.mono e2.ff rw')⟩)
theorem ev_ixScr {xs : Scr} {n : Int} {x : Int} (ha : EV X Γ a xs) (hb : EV X Γ b n) (hx : atI xs.l n = some x) (hp : PlainIx b := by intro _ _; rfl) : EV X Γ (.Subscript a b pos) x := fun B F H σ Q L q =>
  WE.of (pe_ix ix_list peW peW hp) (ha B F H σ _ L fun v F1 H1 e1 r1 => hb B F1 H1 σ _ (L.step e1) fun u F2 H2 e2 r2 => by
    obtain ⟨ad, rfl, h1⟩ := r1
    obtain ⟨k, hk, hx⟩ := Option.bind_eq_some_iff.mp hx
    have s2 := (L.step (e1.trans e2)).same
    exact ⟨ad, _, n, .int x, rfl, r2, s2.seq (e2.ff.seq h1), by unfold atI; rw [List.length_map, hk]; show (xs.l.map V.int)[k]? = _; rw [List.getElem?_map, hx]; rfl, q _ F2 H2 (e1.trans e2) rfl⟩)
theorem ev_ixS {x : Tx} {n : Int} {z : Nat} (ha : EV X Γ a x) (hb : EV X Γ b n) (hx : atI x n = some z) (hz : x.length ≤ sizeLine) (hp : PlainIx b := by intro _ _; rfl) : EV X Γ (.Subscript a b pos) ([z] : Tx) := fun B F H σ Q L q =>
  WE.of (pe_ix ix_str peW peW hp) (ha B F H σ _ L fun v F1 H1 e1 r1 => hb B F1 H1 σ _ (L.step e1) fun u F2 H2 e2 r2 =>
    ⟨sx x, n, z, r1, r2, by rw [sx_len]; exact hz, hx, q _ F2 H2 (e1.trans e2) rfl⟩)
/-- parts of a slice -/
def EO (X : Cx) (Γ : List Slot) (e : Option Expr) (o : Option Int) : Prop := match e, o with
  | none, none => True
  | some e, some n => EV X Γ e n
  | _, _ => False
def WO (X : Cx) (e : Option Expr) (Γ : List Slot) : TO := match e with
  | none => tNoPart
  | some e => tPart (WE X e)
theorem poW {e : Option Expr} : PO X e (WO X e Γ) := by
  cases e with
  | none => exact po_none
  | some e => exact po_some peW
theorem eo_run {e : Option Expr} {o : Option Int} (h : EO X Γ e o) {B : Bs} {F H : Hp} {σ : L2.St} {Q : Option Int → Hp → Prop} (L : Lc X.K B F H σ Γ) (q : ∀ F' H', Ext F H F' H' → Q o H') : WO X e Γ σ H Q := by
  cases e with
  | none =>
    cases o with
    | none => exact q F H (Ext.refl L.same)
    | some n => exact h.elim
  | some e =>
    cases o with
    | none => exact h.elim
    | some n => exact h B F H σ _ L fun v F1 H1 e1 r1 => ⟨n, r1, q F1 H1 e1⟩
def cutL {A : Type} (xs : List A) (lo hi : Option Int) : List A := (xs.drop (HT.sIx xs.length 0 lo)).take (HT.sIx xs.length xs.length hi - HT.sIx xs.length 0 lo)
theorem en_sliceL {p2 : Pos} {lo hi : Option Expr} {o1 o2 : Option Int} {xs : List α} (ha : EV X Γ a xs) (hl : EO X Γ lo o1) (hh : EO X Γ hi o2) : EN X Γ (.Subscript a (.Slice lo hi none p2) pos) (cutL xs o1 o2) := fun B F H σ Q L q =>
  WE.of (pe_slice sl_list peW (poW (Γ := Γ)) (poW (Γ := Γ))) (ha B F H σ _ L fun v F1 H1 e1 r1 => eo_run hl (L.step e1) fun F2 H2 e2 => eo_run hh (L.step (e1.trans e2)) fun F3 H3 e3 => by
    obtain ⟨ad, vs, rfl, h1, pr⟩ := r1
    have e123 := (e1.trans e2).trans e3
    have s3 := (L.step e123).same
    have e23 := e2.trans e3
    refine ⟨ad, vs, rfl, sq_of s3 (e23.ff _ _ h1), fun p hp => ?_⟩
    refine q p _ F3 _ (e123.trans (Ext.apart s3 hp)) (e123.hs.free hp) (s3.free hp) upd_same ?_
    unfold cutV cutL
    rw [Paired.length pr]
    exact ptake _ (pdrop _ (Paired.mapP pr fun _ _ z => i.mono e23.ff z)))
theorem ev_sliceS {p2 : Pos} {lo hi : Option Expr} {o1 o2 : Option Int} {x : Tx} (ha : EV X Γ a x) (hl : EO X Γ lo o1) (hh : EO X Γ hi o2) (hz : x.length ≤ sizeLine) : EV X Γ (.Subscript a (.Slice lo hi none p2) pos) (cutL x o1 o2) := fun B F H σ Q L q =>
  WE.of (pe_slice sl_str peW (poW (Γ := Γ)) (poW (Γ := Γ))) (ha B F H σ _ L fun v F1 H1 e1 r1 => eo_run hl (L.step e1) fun F2 H2 e2 => eo_run hh (L.step (e1.trans e2)) fun F3 H3 e3 =>
    ⟨sx x, r1, by rw [sx_len]; exact hz, q _ F3 H3 ((e1.trans e2).trans e3) (congrArg V.str (by
      unfold cutS cutL
      rw [sx_len]
      rfl))⟩)
end
end Tw

namespace Tw
open PySem PySem.Spec PyProof.Rows L2 TL

section
variable {X : Cx} {Γ : List Slot} {α β γ : Type} {i : Rep α} {j : Rep β} {l : Rep γ} {pos p : Pos} {e a b c : Expr} {es : List Expr} {E : SE} {rest body : List Stmt}

/-! ### small statements -/
theorem ED.seq {B : Bs} {F0 : Hp} {D : Ends} (hM : ∀ x, ¬ B.M x) (ed : ED X.K B F0 E D) : ED X.K B F0 { E with nx := fun Γ' => ST X rest Γ' E } { D with nx := fun σ' H' => WP X rest D σ' H' } :=
  ⟨fun F H σ Γ s h L => h B F H σ D hM L (ed.weak s), ed.rt, ed.bk, ed.ct⟩
theorem st_nil (h : E.nx Γ) : ST X [] Γ E := fun B F H σ D hM L ed => WP.of pss_nil (ed.nx F H σ Γ (Same.refl F) h L)
theorem st_set (k : Nat) {n : Str} {x : α} (he : EV X Γ e x) (hr : ST X rest (Γ.set k (.val i x)) E) (hN : X.N.Nodup) (hi : X.N[k]? = some n := by rfl) (hx : L2.Loc X.env.scope n := by first | exact Or.inl rfl | exact Or.inr rfl)
    (hs : swapsWith e (some (.Name n p)) pos.line X.env = pure false := by rfl) (hf : X.fn n = true ∨ X.env.scope.names.lookup n = some .local := by first | exact .inl rfl | exact .inr rfl) : ST X (.Assign [.Name n p] e pos :: rest) Γ E := fun B F H σ D hM L ed =>
  WP.cons (ps_set hN hi hx peW hs hf) (he B F H σ _ L fun v F1 H1 e1 r1 => hr B F1 H1 _ D hM ((L.step e1).putV k r1) (ed.weak e1.ff))
theorem st_setN (k : Nat) {n : Str} {xs : List α} (he : EN X Γ e xs) (hr : ∀ ad, ST X rest (Γ.set k (.lst i ad xs)) E) (hN : X.N.Nodup) (hi : X.N[k]? = some n := by rfl) (hx : L2.Loc X.env.scope n := by first | exact Or.inl rfl | exact Or.inr rfl)
    (hs : swapsWith e (some (.Name n p)) pos.line X.env = pure false := by rfl) (hf : X.fn n = true ∨ X.env.scope.names.lookup n = some .local := by first | exact .inl rfl | exact .inr rfl) : ST X (.Assign [.Name n p] e pos :: rest) Γ E := fun B F H σ D hM L ed =>
  WP.cons (ps_set hN hi hx peW hs hf) (he B F H σ _ L fun ad vs F1 H1 e1 ha fa h1 pr => hr ad B F1 H1 _ D hM (L.putL k e1 ha fa h1 pr) (ed.weak e1.ff))
theorem st_ret {P : Ret → Prop} (he : EX X Γ e P) (hP : ∀ r, P r → E.rt r) : ST X (.Return (some e) pos :: rest) Γ E := fun B F H σ D hM L ed =>
  WP.cons (ps_ret peW) (he B F H σ _ L fun r v F1 H1 hr e1 ok => by
    have L1 := L.step e1
    refine ed.rt r v F1 H1 (hP r hr) L1.ext ?_
    cases r with
    | val i x => exact ok
    | new i xs =>
      obtain ⟨ad, vs, rfl, h1, h2, h3, h4⟩ := ok
      refine ⟨ad, vs, rfl, ?_, h2, h3, h4⟩
      cases q : B.H ad with
      | none => rfl
      | some o => rw [L.ext.hh ad o (hM ad) q] at h1; cases h1)
theorem st_retV {x : α} (he : EV X Γ e x) (hP : E.rt (.val i x)) : ST X (.Return (some e) pos :: rest) Γ E := st_ret (P := fun r => r = .val i x) (ex_of_ev he rfl) fun r h => h ▸ hP
theorem st_retE {xs : List α} (he : EN X Γ e xs) (hP : E.rt (.new i xs)) : ST X (.Return (some e) pos :: rest) Γ E := st_ret (P := fun r => r = .new i xs) (ex_of_en he rfl) fun r h => h ▸ hP
/-- an own list is handed back -/
theorem st_retL (k : Nat) {n : Str} {ad : Addr} {xs : List α} (hP : E.rt (.new i xs)) (hN : X.N[k]? = some n := by rfl) (hv : Vis X.env.scope n := by first | exact Or.inl rfl | exact Or.inr (Or.inl rfl) | exact Or.inr (Or.inr rfl)) (hd : (n == ("__debug__" : Str)) = false := by decide)
    (hcd : (n == ("__classdict__" : Str)) = false := by decide) (hg : Γ[k]? = some (.lst i ad xs) := by rfl) : ST X (.Return (some (.Name n p)) pos :: rest) Γ E := fun B F H σ D hM L ed => by
  obtain ⟨vs, ea, fa, ba, ha, pr⟩ := slot_lst L hg
  refine WP.cons (ps_ret (pe_var hN hv hd hcd)) ⟨_, ea, ed.rt _ _ F H hP L.ext ⟨ad, vs, rfl, ?_, fa, ha, pr⟩⟩
  rcases ba with z | z
  · exact z
  · exact absurd z (hM ad)
theorem st_retN (hP : E.rt (.val repUnit ())) : ST X (.Return none pos :: rest) Γ E := fun B F H σ D hM L ed => WP.cons ps_retN (ed.rt _ _ F H hP L.ext rfl)
theorem st_if {k : Bool} {A C : List Stmt} (hc : ET X Γ c k) (hA : k = true → ST X A Γ { E with nx := fun Γ' => ST X rest Γ' E }) (hC : k = false → ST X C Γ { E with nx := fun Γ' => ST X rest Γ' E }) : ST X (.If c A C pos :: rest) Γ E := fun B F H σ D hM L ed =>
  WP.cons (ps_if ptW psW psW) (hc B F H σ _ L fun F1 H1 e1 => by
    cases k with
    | true => exact hA rfl B F1 H1 σ _ hM (L.step e1) ((ed.weak e1.ff).seq hM)
    | false => exact hC rfl B F1 H1 σ _ hM (L.step e1) ((ed.weak e1.ff).seq hM))
theorem st_pass (hr : ST X rest Γ E) : ST X (.Pass pos :: rest) Γ E := fun B F H σ D hM L ed => WP.cons ps_pass (hr B F H σ D hM L ed)
theorem st_cont (h : E.ct Γ) : ST X (.Continue pos :: rest) Γ E := fun B F H σ D hM L ed => WP.cons ps_continue (ed.ct F H σ Γ (Same.refl F) h L)
theorem st_break (h : E.bk Γ) : ST X (.Break pos :: rest) Γ E := fun B F H σ D hM L ed => WP.cons ps_break (ed.bk F H σ Γ (Same.refl F) h L)
theorem st_doc {x k pos'} (hr : ST X rest Γ E) : ST X (.Expr (.Constant (.str x) k pos) pos' :: rest) Γ E := fun B F H σ D hM L ed => WP.cons ps_doc (hr B F H σ D hM L ed)
theorem st_drop {P : Ret → Prop} (he : EX X Γ e P) (hr : ST X rest Γ E) (hs : swapsWith e none pos.line X.env = pure false := by rfl) : ST X (.Expr e pos :: rest) Γ E := fun B F H σ D hM L ed =>
  WP.cons (ps_expr peW hs) (he B F H σ _ L fun r v F1 H1 _ e1 _ => hr B F1 H1 σ D hM (L.step e1) (ed.weak e1.ff))
/-- xs.append(e), xs an own list -/
theorem st_append (k : Nat) {n : Str} {ad : Addr} {xs : List α} {x : α} {apos cpos : Pos} (he : EV X Γ e x) (hr : ST X rest (Γ.set k (.lst i ad (xs ++ [x]))) E) (hz : xs.length < sizeLine) (hg : Γ[k]? = some (.lst i ad xs) := by rfl) (hN : X.N[k]? = some n := by rfl)
    (hv : Vis X.env.scope n := by first | exact Or.inl rfl | exact Or.inr (Or.inl rfl) | exact Or.inr (Or.inr rfl)) (hd : (n == ("__debug__" : Str)) = false := by decide) (hcd : (n == ("__classdict__" : Str)) = false := by decide)
    (hbase : attributeBase (.Name n p) "append" X.env (eval (.Name n p) X.env) = eval (.Name n p) X.env := by rfl)
    (hfew : ((backTo cpos (starEach [e] X.env)).all (fun x => !x.1) && (backToKw cpos (keywordEach [] X.env)).all (fun x => x.1.isSome) && decide ([e].length + ([] : List Keyword).length + (if ([] : List Keyword).isEmpty then 0 else 1) < 30)) = true := by rfl)
    (hline : (apos.endLine == cpos.line) = true := by rfl) (hs : starEach [e] X.env = (false, eval e X.env) :: starEach [] X.env := by rfl) (hplain : (backTo cpos (starEach [] X.env)).any (·.1) = false := by rfl)
    (hsw : swapsWith (.Call (.Attribute (.Name n p) "append" apos) [e] [] cpos) none pos.line X.env = pure false := by rfl) :
    ST X (.Expr (.Call (.Attribute (.Name n p) "append" apos) [e] [] cpos) pos :: rest) Γ E := fun B F H σ D hM L ed => by
  obtain ⟨vs, ea, fa, ba, ha, pr⟩ := slot_lst L hg
  refine WP.cons (ps_expr (pe_bm PySem.F.plainAttrs_list PySem.F.slot_list_append PySem.F.type_list_append mt_append (pe_var hN hv hd hcd) (pa_cons peW pa_nil hs) hbase hfew hline hs hplain) hsw) ?_
  refine ⟨_, ea, .inl ⟨rfl, _, .inl (.inl ha)⟩, he B F H σ _ L fun v F1 H1 e1 r1 => ?_⟩
  have L1 := L.step e1
  obtain ⟨vs1, _, _, _, ha1, pr1⟩ := slot_lst L1 hg
  refine ⟨ad, vs1, v, rfl, rfl, ha1, by rw [Paired.length pr1]; exact hz, ?_⟩
  exact hr B F1 _ σ D hM (L1.updL hg (papp pr1 (.cons r1 .nil))) (ed.weak e1.ff)

/-! ### sources -/
/-- what an iterator gives: these things -/
def Yields (K : PySem.W.Frag) (J : It) (F1 : Hp) {α : Type} [i : Rep α] (xs : List α) : Prop :=
  ∀ F2 H2, Same F1 F2 → Same F2 H2 → (∀ (k : Nat) x, xs[k]? = some x → J.go k H2 ∧ ∀ v H3, J.yld k H2 v H3 → ∃ F3, Ext F2 H2 F3 H3 ∧ i.rp K F3 v x) ∧ J.stop xs.length H2
def Src (X : Cx) (Γ : List Slot) (tg it : Expr) {α : Type} [i : Rep α] (xs : List α) : Prop :=
  ∃ wi, PI X tg it wi ∧ ∀ B F H σ R, Lc X.K B F H σ Γ → (∀ J F1 H1, Ext F H F1 H1 → Yields X.K J F1 xs → R J H1) → wi σ H R
variable {tg it : Expr}
theorem src_list {xs : List α} (h : EV X Γ it xs) : Src X Γ tg it xs := ⟨_, pi_list peW, fun B F H σ R L q => h B F H σ _ L fun v F1 H1 e1 r1 => by
  obtain ⟨ad, vs, rfl, ha, pr⟩ := r1
  refine ⟨ad, rfl, ⟨vs, sq_of (L.step e1).same ha⟩, q _ F1 H1 e1 fun F2 H2 s1 s2 => ⟨fun k x hx => ?_, vs, sq_of s2 (s1 _ _ ha), by rw [Paired.length pr]; exact Nat.le_refl _⟩⟩
  obtain ⟨w, hw, rw'⟩ := pgetL pr hx
  refine ⟨⟨vs, w, sq_of s2 (s1 _ _ ha), hw⟩, fun v H3 hy => ?_⟩
  obtain ⟨rfl, hy⟩ := hy
  have : v = w := Option.some.inj ((hy vs (sq_of s2 (s1 _ _ ha))).symm.trans hw)
  subst this
  exact ⟨F2, Ext.refl s2, i.mono s1 rw'⟩⟩
theorem src_tup {xs : Tup α} (h : EV X Γ it xs) : Src X Γ tg it xs.l := ⟨_, pi_tup peW, fun B F H σ R L q => h B F H σ _ L fun v F1 H1 e1 r1 => by
  obtain ⟨ad, vs, rfl, ha, pr⟩ := r1
  refine ⟨ad, rfl, ⟨vs, st_of (L.step e1).same ha⟩, q _ F1 H1 e1 fun F2 H2 s1 s2 => ⟨fun k x hx => ?_, vs, st_of s2 (s1 _ _ ha), by rw [Paired.length pr]; exact Nat.le_refl _⟩⟩
  obtain ⟨w, hw, rw'⟩ := pgetL pr hx
  refine ⟨⟨vs, w, st_of s2 (s1 _ _ ha), hw⟩, fun v H3 hy => ?_⟩
  obtain ⟨rfl, hy⟩ := hy
  have : v = w := Option.some.inj ((hy vs (st_of s2 (s1 _ _ ha))).symm.trans hw)
  subst this
  exact ⟨F2, Ext.refl s2, i.mono s1 rw'⟩⟩
theorem src_rev {xs : List α} {p2 : Pos} (hm : X.mg "reversed" = none) (h : EV X Γ it xs) (hg : Gl X "reversed" := by rfl) (hs : starEach [it] X.env = [(false, eval it X.env)] := by rfl) : Src X Γ tg (.Call (.Name "reversed" p) [it] [] p2) xs.reverse := ⟨_, pi_reversed hg hm (pa_cons peW pa_nil hs) hs, fun B F H σ R L q => h B F H σ _ L fun v F1 H1 e1 r1 => by
  obtain ⟨ad, vs, rfl, ha, pr⟩ := r1
  refine ⟨ad, vs, rfl, sq_of (L.step e1).same ha, q _ F1 H1 e1 fun F2 H2 s1 s2 => ⟨fun k x hx => ?_, by show vs.length ≤ _; rw [Paired.length pr, List.length_reverse]; exact Nat.le_refl _⟩⟩
  have hk : k < xs.length := by have := (List.getElem?_eq_some_iff.mp hx).1; simpa using this
  rw [List.getElem?_reverse hk] at hx
  obtain ⟨w, hw, rw'⟩ := pgetL pr hx
  rw [← Paired.length pr] at hw hk
  refine ⟨⟨hk, vs, w, sq_of s2 (s1 _ _ ha), hw⟩, fun v H3 hy => ?_⟩
  obtain ⟨rfl, hy⟩ := hy
  have : v = w := Option.some.inj ((hy vs (sq_of s2 (s1 _ _ ha))).symm.trans hw)
  subst this
  exact ⟨F2, Ext.refl s2, i.mono s1 rw'⟩⟩
theorem src_str {x : Tx} (h : EV X Γ it x) : Src X Γ tg it (x.map fun c => ([c] : Tx)) := ⟨_, pi_str peW, fun B F H σ R L q => h B F H σ _ L fun v F1 H1 e1 r1 => by
  obtain rfl : v = .str (sx x) := r1
  refine ⟨sx x, rfl, q _ F1 H1 e1 fun F2 H2 s1 s2 => ⟨fun k y hy => ?_, by show x.toArray.size ≤ _; simp⟩⟩
  have hk : k < x.length := by have := (List.getElem?_eq_some_iff.mp hy).1; simpa using this
  refine ⟨by show k < x.toArray.size; simpa using hk, fun v H3 hv => ?_⟩
  obtain ⟨rfl, c, hc, rfl⟩ := hv
  refine ⟨F2, Ext.refl s2, ?_⟩
  rw [List.getElem?_map] at hy
  have hc' : x[k]? = some c := by simpa [sx] using hc
  rw [hc'] at hy
  obtain rfl : ([c] : Tx) = y := Option.some.inj hy
  rfl⟩
def rng (lo : Int) (n : Nat) : List Int := (List.range n).map fun (k : Nat) => lo + (k : Int)
theorem rng_get {lo : Int} {n k : Nat} {x : Int} (h : (rng lo n)[k]? = some x) : k < n ∧ x = lo + k := by
  unfold rng at h
  rw [List.getElem?_map] at h
  by_cases hk : k < n
  · rw [List.getElem?_range hk] at h
    exact ⟨hk, (Option.some.inj h).symm⟩
  · rw [List.getElem?_eq_none (by simpa using hk)] at h; cases h
theorem rng_len {lo : Int} {n : Nat} : (rng lo n).length = n := by unfold rng; simp
theorem yields_rng {K : PySem.W.Frag} {F1 : Hp} {lo : Int} {n : Nat} : Yields K (Itr lo n) F1 (rng lo n) := fun F2 H2 s1 s2 => ⟨fun k x hx => by
  obtain ⟨hk, rfl⟩ := rng_get hx
  exact ⟨hk, fun v H3 hy => by obtain ⟨rfl, rfl⟩ := hy; exact ⟨F2, Ext.refl s2, rfl⟩⟩, by show n ≤ _; rw [rng_len]; exact Nat.le_refl _⟩
theorem src_range {n : Int} {p2 : Pos} (hm : X.mg "range" = none) (h : EV X Γ it n) (h1 : -(2 ^ 62) ≤ n) (h2 : n < 2 ^ 62) (hg : Gl X "range" := by rfl) (hs : starEach [it] X.env = [(false, eval it X.env)] := by rfl) : Src X Γ tg (.Call (.Name "range" p) [it] [] p2) (rng 0 n.toNat) :=
  ⟨_, pi_range1 hg hm (pa_cons peW pa_nil hs) hs, fun B F H σ R L q => h B F H σ _ L fun v F1 H1 e1 r1 => by
    obtain rfl : v = .int n := r1
    exact ⟨n, rfl, h1, h2, q _ F1 H1 e1 yields_rng⟩⟩
theorem src_range2 {m n : Int} {p2 : Pos} (hm : X.mg "range" = none) (ha : EV X Γ a m) (hb : EV X Γ b n) (h : -(2 ^ 62) ≤ m ∧ m < 2 ^ 62 ∧ -(2 ^ 62) ≤ n ∧ n < 2 ^ 62) (hg : Gl X "range" := by rfl)
    (hs : starEach [a, b] X.env = [(false, eval a X.env), (false, eval b X.env)] := by rfl) (hs2 : starEach [b] X.env = [(false, eval b X.env)] := by rfl) : Src X Γ tg (.Call (.Name "range" p) [a, b] [] p2) (rng m (n - m).toNat) :=
  ⟨_, pi_range2 hg hm (pa_cons peW (pa_cons peW pa_nil hs2) (by rw [hs, hs2])) hs hs2, fun B F H σ R L q => ha B F H σ _ L fun v F1 H1 e1 r1 => hb B F1 H1 σ _ (L.step e1) fun u F2 H2 e2 r2 => by
    obtain rfl : v = .int m := r1
    obtain rfl : u = .int n := r2
    exact ⟨m, n, rfl, h, q _ F2 H2 (e1.trans e2) yields_rng⟩⟩

/-! ### targets -/
theorem wipe_get {σ : L2.St} {k : Nat} : ∀ vs : List Nat, (wipe σ vs)[k]? = if k ∈ vs then (σ[k]?).map (fun _ => none) else σ[k]?
  | [] => by simp [wipe]
  | v :: vs => by
    unfold wipe
    by_cases h : v = k
    · subst h
      rw [if_pos (List.mem_cons_self ..), List.getElem?_set]
      rw [if_pos rfl]
      by_cases hl : v < σ.length
      · rw [if_pos (by rw [wipe_length]; exact hl), List.getElem?_eq_getElem hl]; rfl
      · rw [if_neg (by rw [wipe_length]; exact hl), List.getElem?_eq_none (by omega)]; rfl
    · rw [List.getElem?_set_ne h, wipe_get vs]
      have : (k ∈ v :: vs) ↔ k ∈ vs := by simp [Ne.symm h]
      simp only [this]
theorem wipe_wipe (σ : L2.St) (vs : List Nat) : wipe (wipe σ vs) vs = wipe σ vs := by
  refine List.ext_getElem? fun k => ?_
  rw [wipe_get, wipe_get]
  split
  · cases σ[k]? <;> rfl
  · rfl
def wipeS (Γ : List Slot) : List Nat → List Slot
  | [] => Γ
  | v :: vs => (wipeS Γ vs).set v .no
theorem Lc.wipe {K : PySem.W.Frag} {B : Bs} {F H : Hp} {σ : L2.St} {Γ : List Slot} (L : Lc K B F H σ Γ) : ∀ vs : List Nat, Lc K B F H (L2.wipe σ vs) (wipeS Γ vs)
  | [] => L
  | v :: vs => (L.wipe vs).putN v none
/-- a target that is given x -/
structure Tg (K : PySem.W.Frag) (g : TG) {α : Type} [i : Rep α] (bind : α → List Slot → List Slot) (vs : List Nat) : Prop where
  run : ∀ B F H σ Γ v x Q, Lc K B F H σ Γ → i.rp K F v x → (∀ σ2, Lc K B F H σ2 (bind x Γ) → wipe σ2 vs = wipe σ vs → Q σ2 H) → g v σ H Q
theorem tg_name {K : PySem.W.Frag} (k : Nat) : Tg K (gName k) (fun (x : α) Γ => Γ.set k (.val i x)) [k] := ⟨fun B F H σ Γ v x Q L r q => q _ (L.putV k r) (by show (σ.set k (some v)).set k none = σ.set k none; rw [List.set_set])⟩
theorem tg_pair {K : PySem.W.Frag} (k m : Nat) (hkm : k ≠ m) : Tg K (gTup K 2 (gCons (gName k) (gCons (gName m) gNil))) (fun (x : α × β) Γ => (Γ.set k (.val i x.1)).set m (.val j x.2)) [k, m] := ⟨fun B F H σ Γ v x Q L r q => by
  obtain ⟨ad, u, w, rfl, ha, r1, r2⟩ := r
  refine ⟨ad, [u, w], rfl, st_of L.same ha, rfl, u, [w], rfl, w, [], rfl, rfl, q _ ((L.putV k r1).putV m r2) ?_⟩
  show ((((σ.set k (some u)).set m (some w)).set m none).set k none) = (σ.set m none).set k none
  rw [List.set_set, List.set_comm _ _ hkm, List.set_set]⟩

/-! ### loops -/
/-- for tg in it: body; P: what the places hold ahead of each turn -/
theorem st_for {xs : List α} {bind : α → List Slot → List Slot} {vs : List Nat} {g : TG} (P : Nat → List Slot → Prop) (hS : Src X Γ tg it xs) (hT : Tg X.K g bind vs) (h0 : P 0 Γ)
    (hb : ∀ (k : Nat) x Γ', xs[k]? = some x → P k Γ' → ST X body (bind x Γ') { nx := P (k + 1), ct := P (k + 1), bk := fun Γ2 => ST X rest Γ2 E, rt := E.rt })
    (hd : ∀ Γ', P xs.length Γ' → ST X rest Γ' E) (hg : PG X tg g) (hp : PassesOwn (model X.prog X.w) X.A X.env X.xe := by exact PassesOwn.never) (hc : X.calm = true := by rfl) (hs : ∀ x, foldedSetIterable it X.env x = pure x := by intro _; rfl) :
    ST X (.For tg it body [] pos :: rest) Γ E := fun B F H σ D hM L ed => by
  obtain ⟨wi, hi, run⟩ := hS
  refine WP.cons (ps_for hp hc hi hg psW hs) (run B F H σ _ L fun J F1 H1 e1 Y => ?_)
  have L1 := L.step e1
  refine ⟨fun t m σ H => m = xs.length - t ∧ t ≤ xs.length ∧ ∃ F2 Γ', P t Γ' ∧ Same F1 F2 ∧ Lc X.K B F2 H σ Γ', ⟨xs.length, rfl, Nat.zero_le _, F1, Γ, h0, Same.refl _, L1⟩, ?_⟩
  rintro t m σ H ⟨rfl, ht, F2, Γ', hP, s12, L2⟩
  have Y2 := Y F2 H s12 L2.same
  by_cases hlt : t < xs.length
  · have hx : xs[t]? = some xs[t] := List.getElem?_eq_getElem hlt
    obtain ⟨go, yl⟩ := Y2.1 t _ hx
    refine .inr ⟨go, fun σ' H' => ∃ F3 Γ3, P (t + 1) Γ3 ∧ Same F1 F3 ∧ Lc X.K B F3 H' σ' Γ3, fun σ' H' h => ⟨xs.length - (t + 1), by omega, rfl, hlt, h⟩, fun v H3 hy => ?_⟩
    obtain ⟨F3, e3, r3⟩ := yl v H3 hy
    refine hT.run B F3 H3 σ Γ' v _ _ (L2.step e3) r3 fun σ2 L4 _ => ?_
    refine hb t _ Γ' hx hP B F3 H3 σ2 _ hM L4 ⟨fun F5 H5 σ5 Γ5 s5 h5 L5 => ?_, ed.rt, fun F5 H5 σ5 Γ5 s5 h5 L5 => h5 B F5 H5 σ5 D hM L5 (ed.weak (e1.ff.trans (s12.trans (e3.ff.trans s5)))), fun F5 H5 σ5 Γ5 s5 h5 L5 => ?_⟩
    · exact ⟨F5, Γ5, h5, s12.trans (e3.ff.trans s5), L5⟩
    · exact ⟨F5, Γ5, h5, s12.trans (e3.ff.trans s5), L5⟩
  · have et : t = xs.length := by omega
    subst et
    exact .inl ⟨Y2.2, hd Γ' hP B F2 H σ D hM L2 (ed.weak (e1.ff.trans s12))⟩
end
end Tw

namespace Tw
open PySem PySem.Spec PyProof.Rows L2 TL

section
variable {X : Cx} {Γ : List Slot} {α β γ : Type} {i : Rep α} {j : Rep β} {l : Rep γ} {pos p : Pos} {e a b c elt tg it : Expr} {es : List Expr} {E : SE} {rest body : List Stmt}

/-! ### comprehensions -/
abbrev Blk (X : Cx) (scope : Scope) (s : Shared) (H : Hp) (C : Addr) (cl : List (Str × Addr)) (fp : List Addr) : Cx := X.blk s H scope (compEnvC scope cl C X.env) fp
def tBlkE (X : Cx) (scope : Scope) (e : Expr) : TE := fun σ H Q => ∀ s H0 C cl fp, WE (Blk X scope s H0 C cl fp) e σ H Q
def tBlkT (X : Cx) (scope : Scope) (e : Expr) : TT := fun σ H Q => ∀ s H0 C cl fp, WT (Blk X scope s H0 C cl fp) e σ H Q
theorem lc_run {scope : Scope} {xs : List α} {f : α → β} {q : α → Bool} {bind : α → List Slot → List Slot} {vs : List Nat} {g : TG} {tt : TT} {wi : TI} {B : Bs} {F H : Hp} {σ : L2.St} {Q : VK} (L : Lc X.K B F H σ Γ)
    (run : ∀ R, (∀ J F1 H1, Ext F H F1 H1 → Yields X.K J F1 xs → R J H1) → wi σ H R) (hT : Tg X.K g bind vs)
    (ht : ∀ x ∈ xs, ∀ B F H σ R, Lc X.K B F H σ (bind x (wipeS Γ vs)) → (∀ F' H', Ext F H F' H' → R (q x) H') → tt σ H R)
    (he : ∀ x ∈ xs, q x = true → ∀ s H C cl fp, EV (Blk X scope s H C cl fp) (bind x (wipeS Γ vs)) elt (f x)) (hz : xs.length ≤ sizeLine)
    (k : ∀ a vs F' H', Ext F H F' H' → H a = none → F' a = none → H' a = some (.lst vs) → Paired (fun u x => j.rp X.K F' u x) vs ((xs.filter q).map f) → Q (.ref a) H') : tLc wi g tt (tBlkE X scope elt) vs σ H Q := by
  refine run _ fun J F1 H1 e1 Y D hD => ?_
  have L1 := L.step e1
  refine ⟨fun t m H' => m = xs.length - t ∧ t ≤ xs.length ∧ ∃ F2 acc, Ext F1 H1 F2 H' ∧ F2 D = none ∧ H' D = some (.lst acc) ∧ acc.length ≤ t ∧ Paired (fun u x => j.rp X.K F2 u x) acc (((xs.take t).filter q).map f),
    ⟨xs.length, rfl, Nat.zero_le _, F1, [], Ext.apart L1.same hD, L1.same.free hD, upd_same, Nat.le_refl _, .nil⟩, ?_⟩
  rintro t m H2 ⟨rfl, ht', F2, acc, e2, fD, hD2, hl, pr⟩
  have Y2 := Y F2 H2 e2.ff e2.fh
  by_cases hlt : t < xs.length
  · have hx : xs[t]? = some xs[t] := List.getElem?_eq_getElem hlt
    have hmem : xs[t] ∈ xs := List.getElem_mem hlt
    obtain ⟨go, yl⟩ := Y2.1 t _ hx
    refine .inr ⟨go, fun H' => ∃ F3 acc, Ext F1 H1 F3 H' ∧ F3 D = none ∧ H' D = some (.lst acc) ∧ acc.length ≤ t + 1 ∧ Paired (fun u x => j.rp X.K F3 u x) acc (((xs.take (t + 1)).filter q).map f), fun H' h => ⟨xs.length - (t + 1), by omega, rfl, hlt, h⟩, fun v H3 hy => ?_⟩
    obtain ⟨F3, e3, r3⟩ := yl v H3 hy
    have L3 := ((L1.step e2).wipe vs).step e3
    refine hT.run B F3 H3 _ _ v _ _ L3 r3 fun σ2 L4 hw => ⟨by rw [hw, wipe_wipe], ?_⟩
    refine ht _ hmem B F3 H3 σ2 _ L4 fun F4 H4 e4 => ?_
    have e34 := e3.trans e4
    have fD4 : F4 D = none := e34.nw D fD (by rw [hD2]; exact fun z => nomatch z)
    have etake : xs.take (t + 1) = xs.take t ++ [xs[t]] := by rw [List.take_add_one, hx]; rfl
    by_cases hq : q xs[t] = true
    · rw [if_pos hq]
      intro s H0 C cl fp
      refine he _ hmem hq s H0 C cl fp B F4 H4 σ2 _ (L4.step e4) fun w F5 H5 e5 r5 => ?_
      have e345 := e34.trans e5
      have hD5 : H5 D = some (.lst acc) := e345.hs _ _ hD2
      have fD5 : F5 D = none := e345.nw D fD (by rw [hD2]; exact fun z => nomatch z)
      have e25 := e2.trans e345
      refine ⟨acc, hD5, by omega, F5, acc ++ [w], ⟨e25.ff, same_upd e25.fh fD5, fun b o nb ob => ?_, e25.nw⟩, fD5, upd_same, by simp; exact hl, ?_⟩
      · rw [upd_ne (ne_of_none ob hD)]; exact e25.hh b o nb ob
      · rw [etake, List.filter_append, List.map_append]
        have : ([xs[t]].filter q).map f = [f xs[t]] := by rw [List.filter_cons_of_pos hq]; rfl
        rw [this]
        exact papp (Paired.mapP pr fun _ _ z => j.mono e345.ff z) (.cons r5 .nil)
    · rw [if_neg hq]
      refine ⟨F4, acc, e2.trans e34, fD4, e34.hs _ _ hD2, by omega, ?_⟩
      rw [etake, List.filter_append, List.map_append]
      have : ([xs[t]].filter q).map f = [] := by rw [List.filter_cons_of_neg hq]; rfl
      rw [this, List.append_nil]
      exact Paired.mapP pr fun _ _ z => j.mono e34.ff z
  · have et : t = xs.length := by omega
    subst et
    refine .inl ⟨Y2.2, k D acc F2 H2 (e1.trans e2) (e1.hs.free hD) fD hD2 ?_⟩
    rw [List.take_length] at pr
    exact pr
theorem filter_yes {A : Type} (xs : List A) : xs.filter (fun _ => true) = xs := List.filter_eq_self.mpr fun _ _ => rfl
/-- [elt for tg in it] -/
theorem en_lc {scope : Scope} {own : List (Str × Nat)} {xs : List α} {f : α → β} {bind : α → List Slot → List Slot} {g : TG} (hS : Src X Γ tg it xs) (hT : Tg X.K g bind (own.map (·.2))) (hg : ∀ s H C cl fp, PG (Blk X scope s H C cl fp) tg g)
    (he : ∀ x ∈ xs, ∀ s H C cl fp, EV (Blk X scope s H C cl fp) (bind x (wipeS Γ (own.map (·.2)))) elt (f x)) (hN : X.N.Nodup) (ok : BlkOk X.N X.env.scope scope own := by exact blkOk_by (by decide +kernel)) (hz : xs.length ≤ sizeLine)
    (hc : X.calm = true := by rfl) (hs : ∀ x, foldedSetIterable it X.env x = pure x := by intro _; rfl) : EN X Γ (.ListComp elt [⟨tg, it, [], 0⟩] scope pos) (xs.map f) := fun B F H σ Q L k => by
  obtain ⟨wi, hi, run⟩ := hS
  refine WE.of (pe_lc (te := tBlkE X scope elt) hc hN hi ok hg (fun _ _ _ _ _ => pts_nil) (fun s H C cl fp => ⟨fun pins s' σ H' Q' I h => h s H C cl fp pins s' I⟩) hs) ?_
  refine lc_run (q := fun _ => true) L (fun R => run B F H σ R L) hT (fun x _ B F H σ R L h => h F H (Ext.refl L.same)) (fun x hx _ => he x hx) hz fun a vs F' H' e1 ha fa h' pr => k a vs F' H' e1 ha fa h' ?_
  rw [filter_yes] at pr
  exact pr
/-- [elt for tg in it if c] -/
theorem en_lcIf {scope : Scope} {own : List (Str × Nat)} {xs : List α} {f : α → β} {q : α → Bool} {bind : α → List Slot → List Slot} {g : TG} (hS : Src X Γ tg it xs) (hT : Tg X.K g bind (own.map (·.2))) (hg : ∀ s H C cl fp, PG (Blk X scope s H C cl fp) tg g)
    (ht : ∀ x ∈ xs, ∀ s H C cl fp, ET (Blk X scope s H C cl fp) (bind x (wipeS Γ (own.map (·.2)))) c (q x))
    (he : ∀ x ∈ xs, q x = true → ∀ s H C cl fp, EV (Blk X scope s H C cl fp) (bind x (wipeS Γ (own.map (·.2)))) elt (f x)) (hN : X.N.Nodup) (ok : BlkOk X.N X.env.scope scope own := by exact blkOk_by (by decide +kernel)) (hz : xs.length ≤ sizeLine)
    (hc : X.calm = true := by rfl) (hs : ∀ x, foldedSetIterable it X.env x = pure x := by intro _; rfl) : EN X Γ (.ListComp elt [⟨tg, it, [c], 0⟩] scope pos) ((xs.filter q).map f) := fun B F H σ Q L k => by
  obtain ⟨wi, hi, run⟩ := hS
  refine WE.of (pe_lc (te := tBlkE X scope elt) (tt := tBlkT X scope c) hc hN hi ok hg (fun s H C cl fp => pts_one ⟨fun pins s' σ H' Q' I h => h s H C cl fp pins s' I⟩) (fun s H C cl fp => ⟨fun pins s' σ H' Q' I h => h s H C cl fp pins s' I⟩) hs) ?_
  exact lc_run L (fun R => run B F H σ R L) hT (fun x hx B F H σ R L h => fun s H0 C cl fp => ht x hx s H0 C cl fp B F H σ R L h) he hz k
/-- y = [elt for tg in it] -/
theorem st_setLc (m : Nat) {y : Str} {py spos : Pos} {scope : Scope} {own : List (Str × Nat)} {xs : List α} {f : α → β} {bind : α → List Slot → List Slot} {g : TG} (hS : Src X Γ tg it xs) (hT : Tg X.K g bind (own.map (·.2))) (hg : ∀ s H C cl fp, PG (Blk X scope s H C cl fp) tg g)
    (he : ∀ x ∈ xs, ∀ s H C cl fp, EV (Blk X scope s H C cl fp) (bind x (wipeS Γ (own.map (·.2)))) elt (f x)) (hN : X.N.Nodup) (hz : xs.length ≤ sizeLine) (hr : ∀ ad, ST X rest (Γ.set m (.lst j ad (xs.map f))) E)
    (ok : BlkOk X.N X.env.scope scope own := by exact blkOk_by (by decide +kernel)) (hy : X.N[m]? = some y := by rfl) (hyl : X.env.scope.names.lookup y = some .local := by rfl)
    (hsw : swapsWith (.ListComp elt [⟨tg, it, [], 0⟩] scope pos) (some (.Name y py)) spos.line X.env = pure true := by exact sw_true rfl rfl rfl (by decide +kernel))
    (hc : X.calm = true := by rfl) (hs : ∀ x, foldedSetIterable it X.env x = pure x := by intro _; rfl) : ST X (.Assign [.Name y py] (.ListComp elt [⟨tg, it, [], 0⟩] scope pos) spos :: rest) Γ E := fun B F H σ D hM L ed => by
  obtain ⟨wi, hi, run⟩ := hS
  refine WP.cons (ps_setLc (te := tBlkE X scope elt) hc hN hy hyl hsw hi ok hg (fun _ _ _ _ _ => pts_nil) (fun s H C cl fp => ⟨fun pins s' σ H' Q' I h => h s H C cl fp pins s' I⟩) hs) ?_
  refine lc_run (q := fun _ => true) L (fun R => run B F H σ R L) hT (fun x _ B F H σ R L h => h F H (Ext.refl L.same)) (fun x hx _ => he x hx) hz fun a vs F' H' e1 ha fa h' pr => ?_
  rw [filter_yes] at pr
  exact hr a B F' H' _ D hM (L.putL m e1 ha fa h' pr) (ed.weak e1.ff)
theorem st_setLcIf (m : Nat) {y : Str} {py spos : Pos} {scope : Scope} {own : List (Str × Nat)} {xs : List α} {f : α → β} {q : α → Bool} {bind : α → List Slot → List Slot} {g : TG} (hS : Src X Γ tg it xs) (hT : Tg X.K g bind (own.map (·.2))) (hg : ∀ s H C cl fp, PG (Blk X scope s H C cl fp) tg g)
    (ht : ∀ x ∈ xs, ∀ s H C cl fp, ET (Blk X scope s H C cl fp) (bind x (wipeS Γ (own.map (·.2)))) c (q x))
    (he : ∀ x ∈ xs, q x = true → ∀ s H C cl fp, EV (Blk X scope s H C cl fp) (bind x (wipeS Γ (own.map (·.2)))) elt (f x)) (hN : X.N.Nodup) (hz : xs.length ≤ sizeLine) (hr : ∀ ad, ST X rest (Γ.set m (.lst j ad ((xs.filter q).map f))) E)
    (ok : BlkOk X.N X.env.scope scope own := by exact blkOk_by (by decide +kernel)) (hy : X.N[m]? = some y := by rfl) (hyl : X.env.scope.names.lookup y = some .local := by rfl)
    (hsw : swapsWith (.ListComp elt [⟨tg, it, [c], 0⟩] scope pos) (some (.Name y py)) spos.line X.env = pure true := by exact sw_true rfl rfl rfl (by decide +kernel))
    (hc : X.calm = true := by rfl) (hs : ∀ x, foldedSetIterable it X.env x = pure x := by intro _; rfl) : ST X (.Assign [.Name y py] (.ListComp elt [⟨tg, it, [c], 0⟩] scope pos) spos :: rest) Γ E := fun B F H σ D hM L ed => by
  obtain ⟨wi, hi, run⟩ := hS
  refine WP.cons (ps_setLc (te := tBlkE X scope elt) (tt := tBlkT X scope c) hc hN hy hyl hsw hi ok hg (fun s H C cl fp => pts_one ⟨fun pins s' σ H' Q' I h => h s H C cl fp pins s' I⟩) (fun s H C cl fp => ⟨fun pins s' σ H' Q' I h => h s H C cl fp pins s' I⟩) hs) ?_
  exact lc_run L (fun R => run B F H σ R L) hT (fun x hx B F H σ R L h => fun s H0 C cl fp => ht x hx s H0 C cl fp B F H σ R L h) he hz fun a vs F' H' e1 ha fa h' pr => hr a B F' H' _ D hM (L.putL m e1 ha fa h' pr) (ed.weak e1.ff)

/-! ### texts -/
theorem ev_join {o : Expr} {sep : Tx} {xs : List Tx} {apos : Pos} (ho : EV X Γ o sep) (h : EV X Γ e xs) (hz : (xs.map (·.length)).sum + xs.length * sep.length ≤ 16777216) (hs : starEach [e] X.env = [(false, eval e X.env)] := by rfl)
    (hbase : attributeBase o "join" X.env (eval o X.env) = eval o X.env := by rfl) (hline : (apos.endLine == pos.line) = true := by rfl) : EV X Γ (.Call (.Attribute o "join" apos) [e] [] pos) (joinL sep xs) := fun B F H σ Q L q =>
  WE.of (pe_join peW peW hs hbase hline) (ho B F H σ _ L fun v F1 H1 e1 r1 => ⟨⟨_, r1⟩, h B F1 H1 σ _ (L.step e1) fun u F2 H2 e2 r2 => by
    obtain ⟨ad, vs, rfl, ha, pr⟩ := r2
    have s2 := (L.step (e1.trans e2)).same
    refine ⟨sx sep, ad, xs.map sx, r1, rfl, .inl (by rw [← Rps.strs pr]; exact sq_of s2 ha), ?_, q _ F2 H2 (e1.trans e2) (congrArg V.str ?_)⟩
    · rw [List.map_map, List.length_map, sx_len]
      have : ((fun y : Str => y.length) ∘ sx) = (fun x : Tx => x.length) := funext fun x => sx_len x
      rw [this]; exact hz
    · rw [join_eq]
      refine ext_tl ?_
      rw [tl_join, List.map_map]
      have : (tl ∘ sx) = (id : Tx → Tx) := funext fun x => tl_sx x
      rw [this, List.map_id]
      rfl⟩)
theorem joinL_one {x : Tx} : joinL [] (x.map fun c => ([c] : Tx)) = x := by
  have : ∀ (y : List Tx), joinL [] y = y.flatten := by
    intro y
    induction y with
    | nil => rfl
    | cons a r ih =>
      cases r with
      | nil => simp [joinL]
      | cons b r => rw [joinL, ih]; simp
  rw [this]
  induction x with
  | nil => rfl
  | cons a r ih => rw [List.map_cons, List.flatten_cons, ih]; rfl
theorem joinL_nil (y : List Tx) : joinL [] y = y.flatten := by
  induction y with
  | nil => rfl
  | cons a r ih =>
    cases r with
    | nil => simp [joinL]
    | cons b r => rw [joinL, ih]; simp
theorem ev_joinRev {o : Expr} {x : Tx} {apos pos2 : Pos} (hm : X.mg "reversed" = none) (ho : EV X Γ o ([] : Tx)) (h : EV X Γ e x) (hz : x.length ≤ 16777216) (hg : Gl X "reversed" := by rfl) (hc : X.calm = true := by rfl)
    (hs1 : starEach [.Call (.Name "reversed" p) [e] [] pos2] X.env = [(false, eval (.Call (.Name "reversed" p) [e] [] pos2) X.env)] := by rfl) (hs : starEach [e] X.env = (false, eval e X.env) :: starEach [] X.env := by rfl)
    (hbase : attributeBase o "join" X.env (eval o X.env) = eval o X.env := by rfl) (hline : (apos.endLine == pos.line) = true := by rfl) : EV X Γ (.Call (.Attribute o "join" apos) [.Call (.Name "reversed" p) [e] [] pos2] [] pos) (x.reverse) := fun B F H σ Q L q =>
  WE.of (pe_joinRev hc peW hg hm peW hs1 hs hbase hline) (ho B F H σ _ L fun v F1 H1 e1 r1 => ⟨⟨_, r1⟩, h B F1 H1 σ _ (L.step e1) fun u F2 H2 e2 r2 => by
    refine ⟨sx [], sx x, r1, r2, ?_, ?_, q _ F2 H2 (e1.trans e2) (congrArg V.str ?_)⟩
    · rw [sx_len]; exact Nat.le_trans hz (by decide)
    · rw [sx_len, sx_len]; show x.length + x.length * 0 ≤ _; omega
    · rw [join_eq]
      refine ext_tl ?_
      rw [tl_join, List.map_map]
      show joinL [] (x.reverse.map (tl ∘ RevS.one)) = _
      have : (tl ∘ RevS.one) = fun c => ([c] : Tx) := rfl
      rw [this, joinL_one]
      rfl⟩)

/-! ### list(xs) -/
theorem en_list {xs : List α} (hm : X.mg "list" = none) (h : EV X Γ e xs) (hg : Gl X "list" := by rfl) (hs : starEach [e] X.env = (false, eval e X.env) :: starEach [] X.env := by rfl) (hpl : (backTo pos (starEach [] X.env)).any (·.1) = false := by rfl) :
    EN X Γ (.Call (.Name "list" p) [e] [] pos) xs := fun B F H σ Q L q =>
  WE.of (pe_callTy call_list_of hg hm (by decide +kernel) (pa_cons peW pa_nil hs) (by decide) (by decide) hs hpl) (h B F H σ _ L fun v F1 H1 e1 r1 => by
    obtain ⟨ad, vs, rfl, ha, pr⟩ := r1
    have s1 := (L.step e1).same
    exact ⟨ad, vs, rfl, .inl (sq_of s1 ha), fun q' hq => q q' vs F1 _ (e1.trans (Ext.apart s1 hq)) (e1.hs.free hq) (s1.free hq) upd_same pr⟩)

/-! ### what reads an own list without keeping it -/
class Flat (α : Type) [i : Rep α] : Prop where
  fl : ∀ {K F F' v} {x : α}, i.rp K F v x → i.rp K F' v x
instance : Flat Int := ⟨fun h => h⟩
instance : Flat Bool := ⟨fun h => h⟩
instance : Flat Unit := ⟨fun h => h⟩
instance : Flat (List Nat) := ⟨fun h => h⟩
theorem Lc.lend {K : PySem.W.Frag} {B : Bs} {F H : Hp} {σ : L2.St} {k : Nat} {ad : Addr} {xs : List α} (L : Lc K B F H σ Γ) (hk : Γ[k]? = some (.lst i ad xs)) :
    ∃ vs, Lc K ⟨upd F ad (.lst vs), H, fun _ => True⟩ (upd F ad (.lst vs)) H σ (Γ.set k (.val repList xs)) ∧ F ad = none := by
  obtain ⟨vs, ea, fa, ba, ha, pr⟩ := slot_lst L hk
  have sm : Same F (upd F ad (.lst vs)) := fun b u e => by rw [upd_ne (ne_of_none e fa)]; exact e
  have sm2 : Same (upd F ad (.lst vs)) H := fun b u e => by
    by_cases hb : b = ad
    · subst hb; rw [upd_same] at e; rw [← e]; exact ha
    · rw [upd_ne hb] at e; exact L.same _ _ e
  have own : ∀ (q : Nat) s b, Γ[q]? = some s → s.own = true → k ≠ q → σ[q]? = some (some (.ref b)) → b ≠ ad := fun q s b hq ho hkq hb z => by
    subst z
    exact L.ap k q _ _ b hkq hk hq rfl ho ea hb
  refine ⟨vs, ⟨⟨Same.refl _, sm2, fun _ _ n => absurd trivial n, fun _ h _ => h⟩, fun _ _ h => h, by simp [L.len], fun q t hq => ?_, fun x y s1 s2 ad' hxy h1 h2 o1 o2 e1 e2 => ?_⟩, fa⟩
  · rcases get_set_slot hq with ⟨e1, e2, rfl⟩ | ⟨e1, hq'⟩
    · subst e1
      rw [ea]
      exact ⟨_, rfl, ad, vs, rfl, upd_same, Paired.mapP pr fun _ _ z => i.mono sm z⟩
    · have old := L.ok q t hq'
      cases t with
      | no => trivial
      | val i x => obtain ⟨v, e2, r⟩ := old; exact ⟨v, e2, i.mono sm r⟩
      | lst i b zs =>
        obtain ⟨ws, eb, fb, bb, hb, pb⟩ := slot_lst L hq'
        have hne := own q _ b hq' rfl e1 eb
        rw [eb]
        exact ⟨rfl, by rw [upd_ne hne]; exact fb, .inr trivial, ws, hb, Paired.mapP pb fun _ _ z => i.mono sm z⟩
  · have g : ∀ (x : Nat) s, (Γ.set k (.val (repList (α := α)) xs))[x]? = some s → s.own = true → Γ[x]? = some s := fun x s h ho => by
      rcases get_set_slot h with ⟨_, _, rfl⟩ | ⟨_, h⟩
      · cases ho
      · exact h
    exact L.ap x y s1 s2 ad' hxy (g x s1 h1 o1) (g y s2 h2 o2) o1 o2 e1 e2
theorem lend_back {F H F' H' : Hp} {ad : Addr} {o : HO} (s : Same F H) (e : Ext (upd F ad o) H F' H') : Ext F H F H' := ⟨Same.refl F, s.trans e.hs, e.hh, fun _ h _ => h⟩
theorem ev_lend (k : Nat) {ad : Addr} {xs : List α} {y : β} [Flat β] (h : EV X (Γ.set k (.val repList xs)) e y) (hk : Γ[k]? = some (.lst i ad xs) := by rfl) : EV X Γ e y := fun B F H σ Q L q => by
  obtain ⟨vs, L', fa⟩ := L.lend hk
  exact h _ _ H σ Q L' fun v F' H' ex r => q v F H' (lend_back L.same ex) (Flat.fl r)
theorem et_lend (k : Nat) {ad : Addr} {xs : List α} {y : Bool} (h : ET X (Γ.set k (.val repList xs)) e y) (hk : Γ[k]? = some (.lst i ad xs) := by rfl) : ET X Γ e y := fun B F H σ Q L q => by
  obtain ⟨vs, L', fa⟩ := L.lend hk
  exact h _ _ H σ Q L' fun F' H' ex => q F H' (lend_back L.same ex)
theorem en_lend (k : Nat) {ad : Addr} {xs : List α} {ys : List β} [Flat β] (h : EN X (Γ.set k (.val repList xs)) e ys) (hk : Γ[k]? = some (.lst i ad xs) := by rfl) : EN X Γ e ys := fun B F H σ Q L q => by
  obtain ⟨vs, L', fa⟩ := L.lend hk
  exact h _ _ H σ Q L' fun a vs F' H' ex ha f2 h' pr => q a vs F H' (lend_back L.same ex) ha (L.same.free ha) h' (Paired.mapP pr fun _ _ z => Flat.fl z)

/-! ### calls of defs -/
theorem ex_call {n : Str} {k : Nat} {ps : List Str} {S : Spec} {A : List Slot} {P : Ret → Prop} (G : Has X.prog X.w X.K X.mg X.base k n ps S) (hr : Room k X.A) (ha : EA X Γ (e :: es) A)
    (hS : ∀ P' R', (∀ r, P r → P' r) → S A P' R') (hg : Gl X n := by rfl) (hd : (n == ("__debug__" : Str)) = false := by decide)
    (he : starEach (e :: es) X.env = (false, eval e X.env) :: starEach es X.env := by rfl) (hpl : (backTo pos (starEach es X.env)).any (·.1) = false := by rfl) : EX X Γ (.Call (.Name n p) (e :: es) [] pos) P := fun B F H σ Q L q => by
  obtain ⟨f, fd, hm, hk, hb, G⟩ := G.ex
  refine WE.of (pe_call G hr hg hm hk hb .nil passL paW hd he hpl) (ha B F H σ _ L fun vs F1 H1 e1 r1 => ?_)
  rw [List.append_nil]
  exact ⟨F1, A, (L.step e1).same, r1, hS _ _ fun r hr v F2 H2 e2 ok => q r v F2 H2 hr (e1.trans e2) (by
    cases r with
    | val i x => exact ok
    | new i xs =>
      obtain ⟨ad, ws, rfl, h1, h2, h3, h4⟩ := ok
      exact ⟨ad, ws, rfl, e1.hs.free h1, h2, h3, h4⟩)⟩
theorem ev_call {n : Str} {k : Nat} {ps : List Str} {S : Spec} {A : List Slot} {x : α} (G : Has X.prog X.w X.K X.mg X.base k n ps S) (hr : Room k X.A) (ha : EA X Γ (e :: es) A) (hS : ∀ P R, P (.val i x) → S A P R) (hg : Gl X n := by rfl) (hd : (n == ("__debug__" : Str)) = false := by decide)
    (he : starEach (e :: es) X.env = (false, eval e X.env) :: starEach es X.env := by rfl) (hpl : (backTo pos (starEach es X.env)).any (·.1) = false := by rfl) : EV X Γ (.Call (.Name n p) (e :: es) [] pos) x :=
  ev_of_ex (ex_call G hr ha (fun P' R' h => hS P' R' (h _ rfl)) hg hd he hpl)
theorem en_call {n : Str} {k : Nat} {ps : List Str} {S : Spec} {A : List Slot} {xs : List α} (G : Has X.prog X.w X.K X.mg X.base k n ps S) (hr : Room k X.A) (ha : EA X Γ (e :: es) A) (hS : ∀ P R, P (.new i xs) → S A P R) (hg : Gl X n := by rfl) (hd : (n == ("__debug__" : Str)) = false := by decide)
    (he : starEach (e :: es) X.env = (false, eval e X.env) :: starEach es X.env := by rfl) (hpl : (backTo pos (starEach es X.env)).any (·.1) = false := by rfl) : EN X Γ (.Call (.Name n p) (e :: es) [] pos) xs :=
  en_of_ex (ex_call G hr ha (fun P' R' h => hS P' R' (h _ rfl)) hg hd he hpl)
end

/-! ### defs -/
section
variable {P : Program} {w : World} {K : PySem.W.Frag} {mg : Str → Option Value} {base : Heap}
structure Df (K : PySem.W.Frag) (mg : Str → Option Value) (n : Str) (st : Stmt) (ps : List Str) : Prop where
  ex : ∃ f fd, Fun K n n st f fd ∧ Binds K fd ps [] ∧ mg n = some (.ref f)
/-- the places at the entry -/
theorem lc_start {F H : Hp} (s : Same F H) : ∀ {vs : List V} {A : List Slot} (r : VsOk K F vs A) (n : Nat), Lc K ⟨F, H, M0⟩ F H (vs.map some ++ List.replicate n none) (A ++ List.replicate n .no) := by
  intro vs A r n
  have key : ∀ {vs : List V} {A : List Slot}, VsOk K F vs A → ∀ (k : Nat) t, (A ++ List.replicate n Slot.no)[k]? = some t → t.own = false ∧ SlotOk K ⟨F, H, M0⟩ F H ((vs.map some ++ List.replicate n none)[k]?).join t := by
    intro vs A
    induction A generalizing vs with
    | nil =>
      intro r k t h
      rw [List.nil_append, List.getElem?_replicate] at h
      split at h
      · cases h; exact ⟨rfl, trivial⟩
      · cases h
    | cons a A ih =>
      intro r k t h
      cases vs with
      | nil => exact r.elim
      | cons v vs =>
        cases a with
        | no => exact r.elim
        | lst i ad xs => exact r.elim
        | val i x =>
          cases k with
          | zero =>
            simp at h
            subst h
            exact ⟨rfl, v, rfl, r.1⟩
          | succ k => exact ih r.2 k t (by simpa using h)
  refine ⟨Ext.refl s, fun _ z => z.elim, by simp [r.len], fun k t h => (key r k t h).2, fun x y s1 s2 ad _ h1 _ o1 _ => ?_⟩
  rw [(key r x s1 h1).1] at o1
  cases o1
theorem Has.of {n : Str} {st : Stmt} {N ps : List Str} {k : Nat} {S : Spec} (D : Df K mg n st ps) (sc : FnScope N ps (defScope st)) (len : ∀ A Q R, S A Q R → A.length = ps.length)
    (body : ∀ (f : Addr) (cdv : Value) (A : Around) (outer : List Env) (s : Shared) (H : Hp) (E : XK), Room k (A.deeper (envOfC n (defScope st) s.heap.objs.size f cdv)) → ∀ Γ Q R, S Γ Q R →
      ST (cxOf (L2.CX P w) P w K mg base N n (defScope st) f cdv A outer s H E).nox (defBody st) (Γ ++ List.replicate (N.length - ps.length) .no) ⟨fun _ => Q (.val repUnit ()), Q, fun _ => False, fun _ => False⟩) :
    Has P w K mg base (k + 1) n ps S := by
  obtain ⟨f, fd, F, hb, hm⟩ := D.ex
  refine ⟨f, fd, hm, F.kp, hb, F.okX sc (fun vs H Q E ⟨F0, A, s, r, h⟩ => ?_) (fun cdv A outer s H vs Q E hr h => ?_)⟩
  · rw [r.len]; exact len _ _ _ h
  · obtain ⟨F0, A0, sm, r, h⟩ := h
    refine ⟨_, psW.nox, ?_⟩
    have hl := len _ _ _ h
    have L0 := lc_start (K := K) sm r (N.length - ps.length)
    have L1 : Lc K ⟨F0, H, M0⟩ F0 H (L2.start N vs) (A0 ++ List.replicate (N.length - ps.length) .no) := by
      unfold L2.start
      rw [show vs.length = ps.length from r.len.trans hl]
      exact L0
    refine body f cdv A outer s H E hr A0 _ _ h ⟨F0, H, M0⟩ F0 H _ _ (fun _ z => z) L1 ⟨fun F' H' σ' Γ' _ hq L => ?_, fun r v F' H' hq ex ok => hq v F' H' ex ok, fun _ _ _ _ _ z => z.elim, fun _ _ _ _ _ z => z.elim⟩
    exact hq .non F' H' L.ext rfl
end
end Tw

namespace Tw
open PySem PySem.Spec PyProof.Rows L2 TL

/-! ### data that may be compared -/
class Dat (α : Type) [i : Rep α] [DecidableEq α] where
  en : α → PyData
  ok : α → Prop
  dep : Nat
  dp : ∀ {K F v x}, i.rp K F v x → Dp K F v (en x)
  lay : ∀ {x}, ok x → (en x).canLay0 = true
  deep : ∀ x, (en x).depth ≤ dep
  eqv : ∀ x y, PyData.eqv (en x) (en y) = decide (x = y)
instance : Dat Int := ⟨.int, fun _ => True, 0, fun {_ _ v x} h => by obtain rfl : v = .int x := h; exact .int _, fun _ => by rw [PyData.canLay0], fun _ => by simp [PyData.depth], fun x y => by simp [PyData.eqv, Bool.beq_eq_decide_eq]⟩
instance : Dat Bool := ⟨.bool, fun _ => True, 0, fun {_ _ v x} h => by obtain rfl : v = .bl x := h; exact .bl _, fun _ => by rw [PyData.canLay0], fun _ => by simp [PyData.depth], fun x y => by simp [PyData.eqv, Bool.beq_eq_decide_eq]⟩
def TxOk (x : Tx) : Prop := ∀ c ∈ x, c < 1114112
instance : Dat (List Nat) := ⟨fun x => .str (sx x), TxOk, 0, fun {_ _ v x} h => by obtain rfl : v = .str (sx x) := h; exact .str _, fun {x} h => by
    rw [PyData.canLay0]
    show (sx x).cps.all (· < 0x110000) = true
    rw [Array.all_eq_true']
    intro c hc
    exact decide_eq_true (h c (by simpa [sx] using hc)), fun _ => by simp [PyData.depth], fun x y => by
    rw [PyData.eqv, Bool.beq_eq_decide_eq]
    by_cases h : x = y
    · subst h; rw [decide_eq_true rfl, decide_eq_true rfl]
    · rw [decide_eq_false h, decide_eq_false fun z => h (sx_inj z)]⟩
section
variable {α β : Type} [i : Rep α] [DecidableEq α] [d : Dat α] [j : Rep β] [DecidableEq β] [f : Dat β]
theorem dpAll {K : PySem.W.Frag} {F : Hp} : ∀ {vs : List V} {xs : List α}, Paired (fun u x => i.rp K F u x) vs xs → DpAll K F vs (xs.map d.en)
  | _, _, .nil => .nil
  | _, _, .cons r t => .cons (d.dp r) (dpAll t)
theorem layAll : ∀ {xs : List α}, (∀ x ∈ xs, d.ok x) → PyData.canLayAll0 (xs.map d.en) = true
  | [], _ => by rw [List.map_nil, PyData.canLayAll0]
  | x :: xs, h => by
    rw [List.map_cons, PyData.canLayAll0, d.lay (h x (List.mem_cons_self ..)), layAll fun y hy => h y (List.mem_cons_of_mem _ hy)]
    rfl
theorem deepAll : ∀ xs : List α, PyData.depthAll (xs.map d.en) ≤ d.dep
  | [] => by rw [List.map_nil, PyData.depthAll]; exact Nat.zero_le _
  | x :: xs => by rw [List.map_cons, PyData.depthAll]; exact Nat.max_le.mpr ⟨d.deep x, deepAll xs⟩
theorem eqvAll : ∀ xs ys : List α, PyData.eqvAll (xs.map d.en) (ys.map d.en) = decide (xs = ys)
  | [], [] => by rw [List.map_nil, PyData.eqvAll]; rfl
  | x :: xs, [] => by rw [List.map_cons, List.map_nil, PyData.eqvAll]; rfl
  | [], y :: ys => by rw [List.map_cons, List.map_nil, PyData.eqvAll]; rfl
  | x :: xs, y :: ys => by
    rw [List.map_cons, List.map_cons, PyData.eqvAll, d.eqv, eqvAll xs ys, ← Bool.decide_and]
    exact decide_eq_decide.mpr (by simp)
instance : Dat (List α) := ⟨fun xs => .list (xs.map d.en), fun xs => ∀ x ∈ xs, d.ok x, d.dep + 1, fun {K F v xs} ⟨a, vs, e, h, pr⟩ => by subst e; exact .lst (.inl (.inl h)) (dpAll pr), fun h => by rw [PyData.canLay0]; exact layAll h,
  fun xs => by rw [PyData.depth]; exact Nat.succ_le_succ (deepAll xs), fun xs ys => by rw [PyData.eqv]; exact eqvAll xs ys⟩
instance : DecidableEq (Tup α) := fun x y => decidable_of_iff (x.l = y.l) (by cases x; cases y; simp)
instance : Dat (Tup α) := ⟨fun xs => .tuple (xs.l.map d.en), fun xs => ∀ x ∈ xs.l, d.ok x, d.dep + 1, fun {K F v xs} ⟨a, vs, e, h, pr⟩ => by subst e; exact .tup (.inl (.inl h)) (dpAll pr), fun h => by rw [PyData.canLay0]; exact layAll h,
  fun xs => by rw [PyData.depth]; exact Nat.succ_le_succ (deepAll xs.l), fun xs ys => by
    rw [PyData.eqv, eqvAll]
    exact decide_eq_decide.mpr (by cases xs; cases ys; simp)⟩
instance : Dat (α × β) := ⟨fun x => .tuple [d.en x.1, f.en x.2], fun x => d.ok x.1 ∧ f.ok x.2, max d.dep f.dep + 1, fun {K F v x} ⟨a, u, w, e, h, r1, r2⟩ => by subst e; exact .tup (.inl (.inl h)) (.cons (d.dp r1) (.cons (f.dp r2) .nil)),
  fun {x} h => by rw [PyData.canLay0, PyData.canLayAll0, PyData.canLayAll0, PyData.canLayAll0, d.lay h.1, f.lay h.2]; rfl,
  fun x => by
    rw [PyData.depth, PyData.depthAll, PyData.depthAll, PyData.depthAll]
    have h1 := d.deep x.1
    have h2 := f.deep x.2
    omega, fun x y => by
    rw [PyData.eqv, PyData.eqvAll, PyData.eqvAll, PyData.eqvAll, d.eqv, f.eqv, Bool.and_true, ← Bool.decide_and]
    exact decide_eq_decide.mpr (by cases x; cases y; simp)⟩
theorem shp {x : α} (h : d.ok x) (h2 : d.dep ≤ 64) : SeqAt.shaped (d.en x) = true := by
  unfold SeqAt.shaped
  rw [d.lay h, decide_eq_true (Nat.le_trans (d.deep x) h2)]
  rfl
end
section
variable {α : Type} [i : Rep α] [DecidableEq α] [d : Dat α] {X : Cx}
theorem dp_mono {K : PySem.W.Frag} {F H : Hp} {v : V} {x : α} (s : Same F H) (r : i.rp K F v x) : Dp K H v (d.en x) := d.dp (i.mono s r)
theorem o_eqD {x y : α} {k : Nat} (hr : Room k X.A) (hx : d.ok x) (hy : d.ok y) (h2 : d.dep ≤ 64 := by decide) : OB X (compareOp .Eq) x y (decide (x = y)) := ob_flat (op_eqD hr.units) fun F H v u Q s r1 r2 q =>
  ⟨d.en x, d.en y, dp_mono s r1, dp_mono s r2, shp hx h2, shp hy h2, q _ (by rw [d.eqv]; rfl)⟩
theorem o_neD {x y : α} {k : Nat} (hr : Room k X.A) (hx : d.ok x) (hy : d.ok y) (h2 : d.dep ≤ 64 := by decide) : OB X (compareOp .NotEq) x y (!decide (x = y)) := ob_flat (op_neD hr.units) fun F H v u Q s r1 r2 q =>
  ⟨d.en x, d.en y, dp_mono s r1, dp_mono s r2, shp hx h2, shp hy h2, q _ (by rw [d.eqv]; rfl)⟩
end

/-! ### isinstance with a built-in class -/
class Ty (α : Type) [i : Rep α] where
  ty : String
  is : ∀ {K F H v} {x : α}, Same F H → i.rp K F v x → TyX K H v (.type ty)
instance : Ty Int := ⟨"int", fun {_ _ _ v x} _ h => by obtain rfl : v = .int x := h; exact .base (.int _)⟩
instance : Ty Bool := ⟨"bool", fun {_ _ _ v x} _ h => by obtain rfl : v = .bl x := h; exact .base (.bl _)⟩
instance : Ty (List Nat) := ⟨"str", fun {_ _ _ v x} _ h => by obtain rfl : v = .str (sx x) := h; exact .base (.str _)⟩
instance {α : Type} [i : Rep α] : Ty (List α) := ⟨"list", fun {_ _ _ v x} s h => by obtain ⟨a, vs, rfl, h, _⟩ := h; exact .base (.lst (s _ _ h))⟩
instance {α : Type} [i : Rep α] : Ty (Tup α) := ⟨"tuple", fun {_ _ _ v x} s h => by obtain ⟨a, vs, rfl, h, _⟩ := h; exact .base (.tup (s _ _ h))⟩
instance {α β : Type} [i : Rep α] [j : Rep β] : Ty (α × β) := ⟨"tuple", fun {_ _ _ v x} s h => by obtain ⟨a, u, w, rfl, h, _⟩ := h; exact .base (.tup (s _ _ h))⟩
section
variable {X : Cx} {Γ : List Slot} {α β γ : Type} {i : Rep α} {j : Rep β} {l : Rep γ} {pos p p2 : Pos} {e a b c elt tg it : Expr} {es : List Expr} {E : SE} {rest body : List Stmt}
theorem ev_isi {α : Type} [i : Rep α] [t : Ty α] {x : α} (T : String) (k : Bool) (hm : X.mg "isinstance" = none) (hmT : X.mg (Str.ofString T) = none) (h : EV X Γ e x) (hvT : bootBuiltins (Str.ofString T) = some (.type T) := by decide +kernel) (hk : kitB t.ty T = some k := by decide +kernel) (hg : Gl X "isinstance" := by rfl) (hgT : Gl X (Str.ofString T) := by rfl)
    (hnT : Str.ofString T ≠ "__name__" := by decide) (hdT : (Str.ofString T == ("__debug__" : Str)) = false := by decide)
    (hs : starEach [e, .Name (Str.ofString T) p2] X.env = (false, eval e X.env) :: starEach [.Name (Str.ofString T) p2] X.env := by rfl) (hs2 : starEach [.Name (Str.ofString T) p2] X.env = (false, eval (.Name (Str.ofString T) p2) X.env) :: starEach [] X.env := by rfl) (hpl : (backTo pos (starEach [.Name (Str.ofString T) p2] X.env)).any (·.1) = false := by rfl) :
    EV X Γ (.Call (.Name "isinstance" p) [e, .Name (Str.ofString T) p2] [] pos) k := fun B F H σ Q L q =>
  WE.of (pe_callB call_isi hg hm (by decide +kernel) (pa_cons peW (pa_cons (pe_bltn (v := .ty T) hgT hmT hvT rfl hnT hdT) pa_nil hs2) hs) (by decide) (by decide) hs hpl) (h B F H σ _ L fun v F1 H1 e1 r1 =>
    ⟨v, .ty T, .type t.ty, .type T, k, rfl, .ty T, t.is (L.step e1).same r1, kit_ty hk, q _ F1 H1 e1 rfl⟩)

/-! ### more statements -/
/-- a loop over an own list, which the body leaves -/
theorem st_forO (m : Nat) {n : Str} {ad : Addr} {xs : List α} {bind : α → List Slot → List Slot} {vs : List Nat} {g : TG} (P : Nat → List Slot → Prop) (hT : Tg X.K g bind vs) (h0 : P 0 Γ) (hown : ∀ k Γ', P k Γ' → Γ'[m]? = some (.lst i ad xs))
    (hb : ∀ (k : Nat) x Γ', xs[k]? = some x → P k Γ' → ST X body (bind x Γ') { nx := P (k + 1), ct := P (k + 1), bk := fun Γ2 => ST X rest Γ2 E, rt := E.rt })
    (hd : ∀ Γ', P xs.length Γ' → ST X rest Γ' E) (hg : PG X tg g) (hN : X.N[m]? = some n := by rfl)
    (hv : Vis X.env.scope n := by first | exact Or.inl rfl | exact Or.inr (Or.inl rfl) | exact Or.inr (Or.inr rfl)) (hdd : (n == ("__debug__" : Str)) = false := by decide) (hcd : (n == ("__classdict__" : Str)) = false := by decide)
    (hp : PassesOwn (model X.prog X.w) X.A X.env X.xe := by exact PassesOwn.never) (hc : X.calm = true := by rfl) (hs : ∀ x, foldedSetIterable (.Name n p) X.env x = pure x := by intro _; rfl) :
    ST X (.For tg (.Name n p) body [] pos :: rest) Γ E := fun B F H σ D hM L ed => by
  obtain ⟨vs0, ea, _, _, ha, pr0⟩ := slot_lst L (hown 0 Γ h0)
  refine WP.cons (ps_for hp hc (pi_list (pe_var hN hv hdd hcd)) hg psW hs) ⟨_, ea, ad, rfl, ⟨vs0, .inl (.inl ha)⟩, fun t m σ H => m = xs.length - t ∧ t ≤ xs.length ∧ ∃ F2 Γ', P t Γ' ∧ Same F F2 ∧ Lc X.K B F2 H σ Γ', ⟨xs.length, rfl, Nat.zero_le _, F, Γ, h0, Same.refl _, L⟩, ?_⟩
  rintro t m σ H ⟨rfl, ht, F2, Γ', hP, s12, L2⟩
  obtain ⟨vs1, _, _, _, ha1, pr1⟩ := slot_lst L2 (hown t Γ' hP)
  have sq : SqL X.K H ad vs1 := .inl (.inl ha1)
  by_cases hlt : t < xs.length
  · have hx : xs[t]? = some xs[t] := List.getElem?_eq_getElem hlt
    obtain ⟨u, hu, ru⟩ := pgetL pr1 hx
    refine .inr ⟨⟨vs1, u, sq, hu⟩, fun σ' H' => ∃ F3 Γ3, P (t + 1) Γ3 ∧ Same F F3 ∧ Lc X.K B F3 H' σ' Γ3, fun σ' H' h => ⟨xs.length - (t + 1), by omega, rfl, hlt, h⟩, fun v H3 hy => ?_⟩
    obtain ⟨rfl, hy⟩ := hy
    have : v = u := Option.some.inj ((hy vs1 sq).symm.trans hu)
    subst this
    refine hT.run B F2 _ σ Γ' v _ _ L2 ru fun σ2 L4 _ => ?_
    refine hb t _ Γ' hx hP B F2 _ σ2 _ hM L4 ⟨fun F5 H5 σ5 Γ5 s5 h5 L5 => ?_, ed.rt, fun F5 H5 σ5 Γ5 s5 h5 L5 => h5 B F5 H5 σ5 D hM L5 (ed.weak (s12.trans s5)), fun F5 H5 σ5 Γ5 s5 h5 L5 => ?_⟩
    · exact ⟨F5, Γ5, h5, s12.trans s5, L5⟩
    · exact ⟨F5, Γ5, h5, s12.trans s5, L5⟩
  · have et : t = xs.length := by omega
    subst et
    exact .inl ⟨⟨vs1, sq, by rw [Paired.length pr1]; exact Nat.le_refl _⟩, hd Γ' hP B F2 H σ D hM L2 (ed.weak s12)⟩
/-- xs[n] = e, xs an own list -/
theorem st_setIx (m : Nat) {n : Str} {ad : Addr} {xs : List α} {x : α} {z : Int} {t : Nat} {sp : Pos} {sl : Expr} (he : EV X Γ e x) (hi : EV X Γ sl z) (hz : ixN xs.length z = some t) (hr : ST X rest (Γ.set m (.lst i ad (xs.set t x))) E) (hgm : Γ[m]? = some (.lst i ad xs) := by rfl) (hN : X.N[m]? = some n := by rfl)
    (hv : Vis X.env.scope n := by first | exact Or.inl rfl | exact Or.inr (Or.inl rfl) | exact Or.inr (Or.inr rfl)) (hdd : (n == ("__debug__" : Str)) = false := by decide) (hcd : (n == ("__classdict__" : Str)) = false := by decide)
    (hpg : ∀ v, assign (.Subscript (.Name n p) sl sp) X.env v = (do
      let ov ← holding [v] (eval (.Name n p) X.env)
      let iv ← holding [v, ov] (eval sl X.env)
      standAt sp
      holding [v, ov, iv] (setItem ov iv v)
      release [v, ov, iv] []) := by intro _; rfl)
    (hs : swapsWithSole [.Subscript (.Name n p) sl sp] e pos.line X.env = pure false := by rfl) (hw : swappedStores [.Subscript (.Name n p) sl sp] e X.env = pure none := by rfl)
    (h1 : (assignEach [.Subscript (.Name n p) sl sp] X.env).map (·.2) = [assign (.Subscript (.Name n p) sl sp) X.env] := by rfl) :
    ST X (.Assign [.Subscript (.Name n p) sl sp] e pos :: rest) Γ E := fun B F H σ D hM L ed => by
  obtain ⟨_, ea, _, _, _, _⟩ := slot_lst L hgm
  refine WP.cons (ps_asg peW (pg_sub (pe_var hN hv hdd hcd) peW set_list hpg) hs hw h1) (he B F H σ _ L fun v F1 H1 e1 r1 => ⟨_, ea, hi B F1 H1 σ _ (L.step e1) fun u F2 H2 e2 r2 => ?_⟩)
  have L2 := L.step (e1.trans e2)
  obtain ⟨vs, _, _, _, ha, pr⟩ := slot_lst L2 hgm
  exact ⟨ad, vs, z, t, rfl, r2, ha, by rw [Paired.length pr]; exact hz, hr B F2 _ σ D hM (L2.updL hgm (pset (i.mono e2.ff r1) t pr)) (ed.weak (e1.trans e2).ff)⟩
/-- targets = e, by a target's rule -/
theorem st_asg {x : α} {bind : α → List Slot → List Slot} {vs : List Nat} {g : TG} (he : EV X Γ e x) (hT : Tg X.K g bind vs) (hr : ST X rest (bind x Γ) E) (hg : PG X tg g) (hs : swapsWithSole [tg] e pos.line X.env = pure false := by rfl) (hw : swappedStores [tg] e X.env = pure none := by rfl)
    (h1 : (assignEach [tg] X.env).map (·.2) = [assign tg X.env] := by rfl) : ST X (.Assign [tg] e pos :: rest) Γ E := fun B F H σ D hM L ed =>
  WP.cons (ps_asg peW hg hs hw h1) (he B F H σ _ L fun v F1 H1 e1 r1 => hT.run B F1 H1 σ Γ v x _ (L.step e1) r1 fun σ2 L2 _ => hr B F1 H1 σ2 D hM L2 (ed.weak e1.ff))
/-- a, b = x, y with plain names -/
theorem st_par (k m : Nat) {n1 n2 : Str} {x : α} {y : β} {px py pt pt2 : Pos} {kt k2} (ha : EV X Γ a x) (hb : EV X Γ b y) (hr : ST X rest ((Γ.set k (.val i x)).set m (.val j y)) E) (hN : X.N.Nodup) (hkm : k ≠ m := by decide) (hc : X.calm = true := by rfl) (hi : X.N[k]? = some n1 := by rfl) (hj : X.N[m]? = some n2 := by rfl)
    (hx : X.env.scope.names.lookup n1 = some .local := by rfl) (hy : X.env.scope.names.lookup n2 = some .local := by rfl) (hs1 : starEach [a, b] X.env = (false, eval a X.env) :: starEach [b] X.env := by rfl) (hs2 : starEach [b] X.env = (false, eval b X.env) :: starEach [] X.env := by rfl)
    (hw : swappedStores [.Tuple [.Name n1 px, .Name n2 py] kt pt] (.Tuple [a, b] k2 pt2) X.env = pure (some [n1, n2]) := by rfl)
    (hs : swapsWithSole [.Tuple [.Name n1 px, .Name n2 py] kt pt] (.Tuple [a, b] k2 pt2) pos.line X.env = pure false := by rfl) :
    ST X (.Assign [.Tuple [.Name n1 px, .Name n2 py] kt pt] (.Tuple [a, b] k2 pt2) pos :: rest) Γ E := fun B F H σ D hM L ed =>
  WP.cons (ps_par hc hN hi hj hkm hx hy paW hw hs) (ea_cons ha (ea_cons hb ea_nil hs2) hs1 B F H σ _ L fun vs F1 H1 e1 r1 => by
    match vs, r1 with
    | [v, u], ⟨h1, h2, _⟩ => exact ⟨v, u, rfl, hr B F1 H1 _ D hM (((L.step e1).putV k h1).putV m h2) (ed.weak e1.ff)⟩)
/-- some places are forgotten -/
def Le (Γ Γ' : List Slot) : Prop := Γ.length = Γ'.length ∧ ∀ (k : Nat) s, Γ'[k]? = some s → s = .no ∨ Γ[k]? = some s
theorem Le.refl : Le Γ Γ := ⟨rfl, fun _ _ h => .inr h⟩
theorem le_nil : Le [] [] := ⟨rfl, fun _ _ h => .inr h⟩
theorem le_cons {s : Slot} {Γ Γ' : List Slot} (h : Le Γ Γ') : Le (s :: Γ) (s :: Γ') := ⟨by simp [h.1], fun k t e => by
  cases k with
  | zero => exact .inr e
  | succ k => exact h.2 k t (by simpa using e)⟩
theorem le_no {s : Slot} {Γ Γ' : List Slot} (h : Le Γ Γ') : Le (s :: Γ) (.no :: Γ') := ⟨by simp [h.1], fun k t e => by
  cases k with
  | zero => simp at e; exact .inl e.symm
  | succ k => exact h.2 k t (by simpa using e)⟩
theorem Le.trans {Γ Γ' Γ'' : List Slot} (h : Le Γ Γ') (h2 : Le Γ' Γ'') : Le Γ Γ'' := ⟨h.1.trans h2.1, fun k s e => by
  rcases h2.2 k s e with z | z
  · exact .inl z
  · exact h.2 k s z⟩
theorem Lc.le {K : PySem.W.Frag} {B : Bs} {F H : Hp} {σ : L2.St} {Γ Γ' : List Slot} (L : Lc K B F H σ Γ) (h : Le Γ Γ') : Lc K B F H σ Γ' :=
  ⟨L.ext, L.there, L.len.trans h.1, fun k s e => by
    rcases h.2 k s e with rfl | e
    · trivial
    · exact L.ok k s e, fun x y s t ad hxy h1 h2 o1 o2 => by
    rcases h.2 x s h1 with rfl | h1
    · cases o1
    rcases h.2 y t h2 with rfl | h2
    · cases o2
    exact L.ap x y s t ad hxy h1 h2 o1 o2⟩
theorem st_le {sts : List Stmt} {Γ Γ' : List Slot} (h : Le Γ Γ') (hs : ST X sts Γ' E) : ST X sts Γ E := fun B F H σ D hM L ed => hs B F H σ D hM (L.le h) ed
end
/-- the law: True for every script -/
def lawS : Spec := fun A P _ => ∃ s : Scr, A = [vl s] ∧ s.l.length ≤ 63 ∧ P (rv true)
theorem hCX0 (P : Program) (w : World) (H : Hp) (s : Shared) (e : Value) (s' : Shared) : L2.CX P w [] H s (fun _ _ _ => False) e s' → False := fun ⟨_, _, _, _, _, _, _, _, _, _, _, _, z⟩ => z
theorem law_sp (K : PySem.W.Frag) (H : Hp) (a : Addr) (ns : List Int) (hl : ns.length ≤ 63) (hS : SqL K H a (ns.map V.int)) : spOf K lawS [.ref a] H (fun v _ => v = .bl true) fun _ _ _ => False := by
  refine ⟨H, [vl (Scr.mk ns)], Same.refl H, ⟨⟨a, rfl, hS⟩, trivial⟩, ⟨ns⟩, rfl, hl, fun v F' H' _ ok => ok⟩

section
variable {P : Program} {w : World} {K : PySem.W.Frag} {mg : Str → Option Value} {base : Heap}
/-- a body does what the spec says, from any entry -/
def BodyOk (P : Program) (w : World) (K : PySem.W.Frag) (mg : Str → Option Value) (base : Heap) (k : Nat) (n : Str) (st : Stmt) (N ps : List Str) (S : Spec) : Prop :=
  ∀ (f : Addr) (cdv : Value) (A : Around) (outer : List Env) (s : Shared) (H : Hp) (E : XK), Room k (A.deeper (envOfC n (defScope st) s.heap.objs.size f cdv)) → ∀ Γ Q R, S Γ Q R →
      ST (cxOf (L2.CX P w) P w K mg base N n (defScope st) f cdv A outer s H E).nox (defBody st) (Γ ++ List.replicate (N.length - ps.length) .no) ⟨fun _ => Q (.val repUnit ()), Q, fun _ => False, fun _ => False⟩
theorem law_fn {f : Addr} {fd : FuncData} {st : Stmt} {N : List Str} {x : Str} {k : Nat} (F : Fun K "law" "law" st f fd) (sc : FnScope N [x] (defScope st)) (body : BodyOk P w K mg base k "law" st N [x] lawS) :
    FnOk P w K mg base (L2.CX P w) (k + 1) f fd [x] (spOf K lawS) := by
  refine F.okX sc (fun vs H Q E ⟨F0, A, s, r, h⟩ => ?_) (fun cdv A outer s H vs Q E hr h => ?_)
  · obtain ⟨s, rfl, _⟩ := h
    rw [r.len]; rfl
  · obtain ⟨F0, A0, sm, r, h⟩ := h
    refine ⟨_, psW.nox, ?_⟩
    have hl : A0.length = 1 := by obtain ⟨s, rfl, _⟩ := h; rfl
    have L0 := lc_start (K := K) sm r (N.length - 1)
    have L1 : Lc K ⟨F0, H, M0⟩ F0 H (L2.start N vs) (A0 ++ List.replicate (N.length - 1) .no) := by
      unfold L2.start
      rw [show vs.length = 1 from r.len.trans hl]
      exact L0
    refine body f cdv A outer s H E hr A0 _ _ h ⟨F0, H, M0⟩ F0 H _ _ (fun _ z => z) L1 ⟨fun F' H' σ' Γ' _ hq L => ?_, fun r v F' H' hq ex ok => hq v F' H' ex ok, fun _ _ _ _ _ z => z.elim, fun _ _ _ _ _ z => z.elim⟩
    exact hq .non F' H' L.ext rfl
end
theorem ev_gintE {X : Cx} {Γ : List Slot} {pos : Pos} {n : Str} {z : Int} (hm : ∃ t, X.mg n = some (.int z t)) (hg : Gl X n := by rfl) (hd : (n == ("__debug__" : Str)) = false := by decide) : EV X Γ (.Name n pos) z := by
  obtain ⟨t, hm⟩ := hm
  exact ev_gint hm hg hd
theorem ev_gstrE {X : Cx} {Γ : List Slot} {pos : Pos} {n : Str} {s : String} (hm : ∃ t, X.mg n = some (.str (Str.ofString s) t)) (hg : Gl X n := by rfl) (hd : (n == ("__debug__" : Str)) = false := by decide) : EV X Γ (.Name n pos) (tx s) := by
  obtain ⟨t, hm⟩ := hm
  exact ev_gstr s hm hg hd

theorem pgn {X : Cx} (k : Nat) {n : Str} {pos : Pos} (hN : X.N.Nodup) (hi : X.N[k]? = some n := by rfl) (hx : L2.Loc X.env.scope n := by first | exact Or.inl rfl | exact Or.inr rfl)
    (hf : X.fn n = true ∨ X.env.scope.names.lookup n = some .local := by first | exact .inl rfl | exact .inr rfl) : PG X (.Name n pos) (gName k) := pg_name hN hi hx hf
theorem Le.set {Γ Γ' : List Slot} (h : Le Γ Γ') (k : Nat) (s : Slot) : Le (Γ.set k s) (Γ'.set k s) := ⟨by simp [h.1], fun q t e => by
  rcases get_set_slot e with ⟨e1, e2, rfl⟩ | ⟨e1, e⟩
  · refine .inr ?_
    subst e1
    rw [List.getElem?_set_self (by rw [h.1]; exact e2)]
  · rcases h.2 q t e with z | z
    · exact .inl z
    · exact .inr (by rw [List.getElem?_set_ne e1]; exact z)⟩

theorem en_nil {X : Cx} {Γ : List Slot} {pos : Pos} (α : Type) [i : Rep α] : EN X Γ (.List [] pos) ([] : List α) := en_lst es_nil

theorem rng_get0 {n k : Nat} {x : Int} (h : (rng 0 n)[k]? = some x) : k < n ∧ x = (k : Int) := by
  obtain ⟨h1, h2⟩ := rng_get h
  exact ⟨h1, by rw [h2]; omega⟩
theorem rng_mem {lo : Int} {n : Nat} {x : Int} (h : x ∈ rng lo n) : ∃ k : Nat, k < n ∧ x = lo + k := by
  unfold rng at h
  obtain ⟨k, hk, rfl⟩ := List.mem_map.mp h
  exact ⟨k, List.mem_range.mp hk, rfl⟩
theorem joinOnes {A : Type} (xs : List A) (f : A → Nat) : joinL [] (xs.map fun x => ([f x] : Tx)) = xs.map f := by
  rw [show (fun x => ([f x] : Tx)) = (fun c => ([c] : Tx)) ∘ f from rfl, ← List.map_map, joinL_one]
theorem take_snoc {A : Type} {xs : List A} {k : Nat} {x : A} (h : xs[k]? = some x) : xs.take (k + 1) = xs.take k ++ [x] := by rw [List.take_add_one, h]; rfl
theorem lt_line {n : Nat} (h : n ≤ 1000) : n < sizeLine := Nat.lt_of_le_of_lt h (by decide)
theorem sum_ones {A : Type} (xs : List A) (f : A → Nat) : ((xs.map fun x => ([f x] : Tx)).map (·.length)).sum = xs.length := by
  rw [List.map_map, show (List.length ∘ fun x => ([f x] : Tx)) = fun _ => 1 from rfl, List.map_const', List.sum_replicate_nat]; omega
end Tw

namespace Tw
open PySem PySem.Spec PyProof.Rows L2 TL
section
variable {X : Cx} {Γ : List Slot} {α β γ δ : Type} {i : Rep α} {j : Rep β} {l : Rep γ} {m : Rep δ} {pos p p2 : Pos} {e a b c d elt tg it : Expr} {es : List Expr} {E : SE} {rest body : List Stmt}
/-- a < b < c < d, as a test -/
theorem et_chain3 {op1 op2 op3 : CmpOp} {x : α} {y : β} {z : γ} {t : δ} {k1 k2 k3 : Bool} (o1 : OB X (compareOp op1) x y k1) (o2 : k1 = true → OB X (compareOp op2) y z k2) (o3 : k1 = true → k2 = true → OB X (compareOp op3) z t k3)
    (ha : EV X Γ a x) (hb : EV X Γ b y) (hc : k1 = true → EV X Γ c z) (hd : k1 = true → k2 = true → EV X Γ d t) (hm : lastMarks [op1, op2, op3] [b, c, d] = false := by with_unfolding_all rfl) :
    ET X Γ (.Compare a [op1, op2, op3] [b, c, d] pos) (k1 && (k2 && k3)) := fun B F H σ Q L q pins s I => by
  refine isTrue_chain (thn (ha B F H σ (fun v H1 => ∃ F1, Ext F H F1 H1 ∧ i.rp X.K F1 v x) L (fun v F1 H1 e r => ⟨F1, e, r⟩) pins s I) fun va s1 ⟨v, H1, I1, rv1, F1, e1, r1⟩ => ?_) hm
  refine test_link (thn (hb B F1 H1 σ (fun v H2 => ∃ F2, Ext F1 H1 F2 H2 ∧ j.rp X.K F2 v y) (L.step e1) (fun v F2 H2 e r => ⟨F2, e, r⟩) pins s1 I1) fun vb s2 ⟨u, H2, I2, rv2, F2, e2, r2⟩ => ?_)
  have L2 := L.step (e1.trans e2)
  refine thn (o1 F2 H2 v u (fun w H3 => ∃ F3, Ext F2 H2 F3 H3 ∧ w = .bl k1) L2.same (i.mono e2.ff r1) r2 (fun w F3 H3 e hw => ⟨F3, e, hw⟩) pins s2 σ va vb I2 rv1 rv2) fun c1 s3 ⟨w1, H3, I3, rw1, F3, e3, hw1⟩ => ?_
  subst hw1
  obtain rfl : c1 = Value.bool k1 := rw1
  refine wpAny_truthy_bool ?_
  have e123 := (e1.trans e2).trans e3
  cases k1 with
  | false => exact ite_ff ⟨H3, I3, q F3 H3 e123⟩
  | true =>
    refine ite_tt (test_link (thn (hc rfl B F3 H3 σ (fun v H4 => ∃ F4, Ext F3 H3 F4 H4 ∧ l.rp X.K F4 v z) (L.step e123) (fun v F4 H4 e r => ⟨F4, e, r⟩) pins s3 I3) fun vc s4 ⟨t1, H4, I4, rv3, F4, e4, r4⟩ => ?_))
    have e1234 := e123.trans e4
    refine thn (o2 rfl F4 H4 u t1 (fun w H5 => ∃ F5, Ext F4 H4 F5 H5 ∧ w = .bl k2) (L.step e1234).same (j.mono (e3.trans e4).ff r2) r4 (fun w F5 H5 e hw => ⟨F5, e, hw⟩) pins s4 σ vb vc I4 rv2 rv3) fun c2 s5 ⟨w2, H5, I5, rw2, F5, e5, hw2⟩ => ?_
    subst hw2
    obtain rfl : c2 = Value.bool k2 := rw2
    refine wpAny_truthy_bool ?_
    have e5' := e1234.trans e5
    cases k2 with
    | false => exact ite_ff ⟨H5, I5, q F5 H5 e5'⟩
    | true =>
      refine ite_tt (test_last (thn (hd rfl rfl B F5 H5 σ (fun v H6 => ∃ F6, Ext F5 H5 F6 H6 ∧ m.rp X.K F6 v t) (L.step e5') (fun v F6 H6 e r => ⟨F6, e, r⟩) pins s5 I5) fun vd s6 ⟨t2, H6, I6, rv4, F6, e6, r6⟩ => ?_))
      have e6' := e5'.trans e6
      refine thn (o3 rfl rfl F6 H6 t1 t2 (fun w H7 => ∃ F7, Ext F6 H6 F7 H7 ∧ w = .bl k3) (L.step e6').same (l.mono (e5.trans e6).ff r4) r6 (fun w F7 H7 e hw => ⟨F7, e, hw⟩) pins s6 σ vc vd I6 rv3 rv4) fun c3 s7 ⟨w3, H7, I7, rw3, F7, e7, hw3⟩ => ?_
      subst hw3
      obtain rfl : c3 = Value.bool k3 := rw3
      exact wpAny_truthy_bool ⟨H7, I7, q F7 H7 (e6'.trans e7)⟩
theorem ev_all {bs : List Bool} (hm : X.mg "all" = none) (h : EV X Γ e bs) (hc : X.calm = true := by rfl) (hg : Gl X "all" := by rfl) (hs : starEach [e] X.env = (false, eval e X.env) :: starEach [] X.env := by rfl) (hpl : (backTo pos (starEach [] X.env)).any (·.1) = false := by rfl) :
    EV X Γ (.Call (.Name "all" p) [e] [] pos) (bs.all id) :=
  ev_callB1 (cr_all hc) hm (by decide +kernel) h (fun F H v Q s r q => by
    obtain ⟨ad, vs, rfl, ha, pr⟩ := r
    exact ⟨ad, bs, rfl, by rw [← Rps.bls pr]; exact sq_of s ha, q _ F H (Ext.refl s) rfl⟩) hg (by decide) (by decide) hs hpl
theorem ev_any {bs : List Bool} (hm : X.mg "any" = none) (h : EV X Γ e bs) (hc : X.calm = true := by rfl) (hg : Gl X "any" := by rfl) (hs : starEach [e] X.env = (false, eval e X.env) :: starEach [] X.env := by rfl) (hpl : (backTo pos (starEach [] X.env)).any (·.1) = false := by rfl) :
    EV X Γ (.Call (.Name "any" p) [e] [] pos) (bs.any id) :=
  ev_callB1 (cr_any hc) hm (by decide +kernel) h (fun F H v Q s r q => by
    obtain ⟨ad, vs, rfl, ha, pr⟩ := r
    exact ⟨ad, bs, rfl, by rw [← Rps.bls pr]; exact sq_of s ha, q _ F H (Ext.refl s) rfl⟩) hg (by decide) (by decide) hs hpl
theorem ev_sum {ns : List Int} (hm : X.mg "sum" = none) (h : EV X Γ e ns) (hc : X.calm = true := by rfl) (hg : Gl X "sum" := by rfl) (hs : starEach [e] X.env = (false, eval e X.env) :: starEach [] X.env := by rfl) (hpl : (backTo pos (starEach [] X.env)).any (·.1) = false := by rfl) :
    EV X Γ (.Call (.Name "sum" p) [e] [] pos) ns.sum :=
  ev_callB1 (cr_sum hc) hm (by decide +kernel) h (fun F H v Q s r q => by
    obtain ⟨ad, vs, rfl, ha, pr⟩ := r
    exact ⟨ad, ns, rfl, by rw [← Rps.ints pr]; exact sq_of s ha, q _ F H (Ext.refl s) rfl⟩) hg (by decide) (by decide) hs hpl
theorem o_ltT {x y : Tup Int} {k : Nat} (hr : Room k X.A) : OB X (compareOp .Lt) x y (HT.lexLt x.l y.l) := ob_flat (op_ltT hr.units0) fun F H v u Q s r1 r2 q => by
  obtain ⟨a1, vs, rfl, h1, p1⟩ := r1
  obtain ⟨a2, ws, rfl, h2, p2⟩ := r2
  exact ⟨a1, a2, x.l, y.l, rfl, rfl, by rw [← Rps.ints p1]; exact st_of s h1, by rw [← Rps.ints p2]; exact st_of s h2, q _ rfl⟩
/-- a, b, c, d = e, a tuple of four like things -/
theorem st_unpack4 (k1 k2 k3 k4 : Nat) {n1 n2 n3 n4 : Str} {x1 x2 x3 x4 : α} {q1 q2 q3 q4 tp : Pos} {kk} (he : EV X Γ e (Tup.mk [x1, x2, x3, x4])) (hr : ST X rest ((((Γ.set k1 (.val i x1)).set k2 (.val i x2)).set k3 (.val i x3)).set k4 (.val i x4)) E)
    (hg : PG X (.Tuple [.Name n1 q1, .Name n2 q2, .Name n3 q3, .Name n4 q4] kk tp) (gTup X.K 4 (gCons (gName k1) (gCons (gName k2) (gCons (gName k3) (gCons (gName k4) gNil))))))
    (hs : swapsWithSole [.Tuple [.Name n1 q1, .Name n2 q2, .Name n3 q3, .Name n4 q4] kk tp] e pos.line X.env = pure false := by rfl) (hw : swappedStores [.Tuple [.Name n1 q1, .Name n2 q2, .Name n3 q3, .Name n4 q4] kk tp] e X.env = pure none := by rfl)
    (h1 : (assignEach [.Tuple [.Name n1 q1, .Name n2 q2, .Name n3 q3, .Name n4 q4] kk tp] X.env).map (·.2) = [assign (.Tuple [.Name n1 q1, .Name n2 q2, .Name n3 q3, .Name n4 q4] kk tp) X.env] := by rfl) :
    ST X (.Assign [.Tuple [.Name n1 q1, .Name n2 q2, .Name n3 q3, .Name n4 q4] kk tp] e pos :: rest) Γ E := fun B F H σ D hM L ed =>
  WP.cons (ps_asg peW hg hs hw h1) (he B F H σ _ L fun v F1 H1 e1 r1 => by
    obtain ⟨ad, vs, rfl, ha, pr⟩ := r1
    have L1 := L.step e1
    match vs, pr with
    | [v1, v2, v3, v4], .cons p1 (.cons p2 (.cons p3 (.cons p4 .nil))) =>
      exact ⟨ad, _, rfl, st_of L1.same ha, rfl, v1, _, rfl, v2, _, rfl, v3, _, rfl, v4, _, rfl, rfl, hr B F1 H1 _ D hM ((((L1.putV k1 p1).putV k2 p2).putV k3 p3).putV k4 p4) (ed.weak e1.ff)⟩)
theorem pg4 (k1 k2 k3 k4 : Nat) {n1 n2 n3 n4 : Str} {q1 q2 q3 q4 tp : Pos} {kk} (hN : X.N.Nodup) (hc : X.calm = true := by rfl) (h1 : PG X (.Name n1 q1) (gName k1)) (h2 : PG X (.Name n2 q2) (gName k2)) (h3 : PG X (.Name n3 q3) (gName k3)) (h4 : PG X (.Name n4 q4) (gName k4))
    (a1 : (assignEach [.Name n1 q1, .Name n2 q2, .Name n3 q3, .Name n4 q4] X.env).map (·.2) = assign (.Name n1 q1) X.env :: (assignEach [.Name n2 q2, .Name n3 q3, .Name n4 q4] X.env).map (·.2) := by rfl)
    (a2 : (assignEach [.Name n2 q2, .Name n3 q3, .Name n4 q4] X.env).map (·.2) = assign (.Name n2 q2) X.env :: (assignEach [.Name n3 q3, .Name n4 q4] X.env).map (·.2) := by rfl)
    (a3 : (assignEach [.Name n3 q3, .Name n4 q4] X.env).map (·.2) = assign (.Name n3 q3) X.env :: (assignEach [.Name n4 q4] X.env).map (·.2) := by rfl)
    (a4 : (assignEach [.Name n4 q4] X.env).map (·.2) = assign (.Name n4 q4) X.env :: (assignEach [] X.env).map (·.2) := by rfl)
    (hn : (assignEach [.Name n1 q1, .Name n2 q2, .Name n3 q3, .Name n4 q4] X.env).length = 4 := by rfl) (hst : (assignEach [.Name n1 q1, .Name n2 q2, .Name n3 q3, .Name n4 q4] X.env).findIdx? (·.1) = none := by rfl) :
    PG X (.Tuple [.Name n1 q1, .Name n2 q2, .Name n3 q3, .Name n4 q4] kk tp) (gTup X.K 4 (gCons (gName k1) (gCons (gName k2) (gCons (gName k3) (gCons (gName k4) gNil))))) :=
  pg_tup hc (pgs_cons h1 (pgs_cons h2 (pgs_cons h3 (pgs_cons h4 pgs_nil a4) a3) a2) a1) hn hst
theorem pg2 (k1 k2 : Nat) {n1 n2 : Str} {q1 q2 tp : Pos} {kk} (h1 : PG X (.Name n1 q1) (gName k1)) (h2 : PG X (.Name n2 q2) (gName k2)) (hc : X.calm = true := by rfl)
    (a3 : (assignEach [.Name n1 q1, .Name n2 q2] X.env).map (·.2) = assign (.Name n1 q1) X.env :: (assignEach [.Name n2 q2] X.env).map (·.2) := by rfl)
    (a4 : (assignEach [.Name n2 q2] X.env).map (·.2) = assign (.Name n2 q2) X.env :: (assignEach [] X.env).map (·.2) := by rfl)
    (hn : (assignEach [.Name n1 q1, .Name n2 q2] X.env).length = 2 := by rfl) (hst : (assignEach [.Name n1 q1, .Name n2 q2] X.env).findIdx? (·.1) = none := by rfl) :
    PG X (.Tuple [.Name n1 q1, .Name n2 q2] kk tp) (gTup X.K 2 (gCons (gName k1) (gCons (gName k2) gNil))) := pg_tup hc (pgs_cons h1 (pgs_cons h2 pgs_nil a4) a3) hn hst
/-- anything -/
structure Thing where
  u : Unit
instance repThing : Rep Thing := ⟨fun _ _ _ _ => True, fun _ h => h⟩
theorem things {F : Hp} {K : PySem.W.Frag} : ∀ vs : List V, ∃ xs : List Thing, Paired (fun u x => repThing.rp K F u x) vs xs
  | [] => ⟨[], .nil⟩
  | v :: vs => let ⟨xs, h⟩ := things vs; ⟨⟨()⟩ :: xs, .cons trivial h⟩
/-- xs.append(e), whatever; the list is not known any more -/
theorem st_appendAny (k : Nat) {n : Str} {ad : Addr} {xs : List α} {P : Ret → Prop} {apos cpos : Pos} (he : EX X Γ e P) (hr : ST X rest (Γ.set k .no) E) (hz : xs.length < sizeLine) (hg : Γ[k]? = some (.lst i ad xs) := by rfl) (hN : X.N[k]? = some n := by rfl)
    (hv : Vis X.env.scope n := by first | exact Or.inl rfl | exact Or.inr (Or.inl rfl) | exact Or.inr (Or.inr rfl)) (hd : (n == ("__debug__" : Str)) = false := by decide) (hcd : (n == ("__classdict__" : Str)) = false := by decide)
    (hbase : attributeBase (.Name n p) "append" X.env (eval (.Name n p) X.env) = eval (.Name n p) X.env := by rfl)
    (hfew : ((backTo cpos (starEach [e] X.env)).all (fun x => !x.1) && (backToKw cpos (keywordEach [] X.env)).all (fun x => x.1.isSome) && decide ([e].length + ([] : List Keyword).length + (if ([] : List Keyword).isEmpty then 0 else 1) < 30)) = true := by rfl)
    (hline : (apos.endLine == cpos.line) = true := by rfl) (hs : starEach [e] X.env = (false, eval e X.env) :: starEach [] X.env := by rfl) (hplain : (backTo cpos (starEach [] X.env)).any (·.1) = false := by rfl)
    (hsw : swapsWith (.Call (.Attribute (.Name n p) "append" apos) [e] [] cpos) none pos.line X.env = pure false := by rfl) :
    ST X (.Expr (.Call (.Attribute (.Name n p) "append" apos) [e] [] cpos) pos :: rest) Γ E := fun B F H σ D hM L ed => by
  obtain ⟨vs, ea, fa, ba, ha, pr⟩ := slot_lst L hg
  refine WP.cons (ps_expr (pe_bm PySem.F.plainAttrs_list PySem.F.slot_list_append PySem.F.type_list_append mt_append (pe_var hN hv hd hcd) (pa_cons peW pa_nil hs) hbase hfew hline hs hplain) hsw) ?_
  refine ⟨_, ea, .inl ⟨rfl, _, .inl (.inl ha)⟩, he B F H σ _ L fun r v F1 H1 _ e1 _ => ?_⟩
  have L1 := L.step e1
  obtain ⟨vs1, _, _, _, ha1, pr1⟩ := slot_lst L1 hg
  refine ⟨ad, vs1, v, rfl, rfl, ha1, by rw [Paired.length pr1]; exact hz, ?_⟩
  obtain ⟨ts, ht⟩ := things (F := F1) (K := X.K) (vs1 ++ [v])
  have L2 := (L1.updL hg ht).le (Γ' := Γ.set k .no) ⟨by simp, fun q t e => by
    rcases get_set_slot e with ⟨_, _, rfl⟩ | ⟨n1, e⟩
    · exact .inl rfl
    · exact .inr (by rw [List.getElem?_set_ne n1]; exact e)⟩
  exact hr B F1 _ σ D hM L2 (ed.weak e1.ff)
end
end Tw

namespace Law
open PySem PySem.Spec PyProof.Rows L2 TL Tw
def topS (i : Nat) : Stmt := PySem.Challenge.pw_quiltlaw_k03_windows_cut_out.main.body.getD i (.Pass ⟨0, 0, 0, 0⟩)
abbrev s_size_of : Stmt := topS 1
abbrev N_size_of : List Str := ["picture"]
theorem sc_size_of : FnScope N_size_of ["picture"] (defScope s_size_of) := ⟨rfl, rfl, rfl, by decide +kernel, rfl, by decide +kernel, by decide +kernel⟩
abbrev bk_size_of := @L2.blkOk_by N_size_of (defScope s_size_of)
abbrev s_windows_of : Stmt := topS 2
abbrev N_windows_of : List Str := ["rows", "columns", "found", "top", "left", "bottom", "right"]
theorem sc_windows_of : FnScope N_windows_of ["rows", "columns"] (defScope s_windows_of) := ⟨rfl, rfl, rfl, by decide +kernel, rfl, by decide +kernel, by decide +kernel⟩
abbrev bk_windows_of := @L2.blkOk_by N_windows_of (defScope s_windows_of)
abbrev s_cut_out : Stmt := topS 3
abbrev N_cut_out : List Str := ["picture", "window", "top", "left", "bottom", "right", "row"]
theorem sc_cut_out : FnScope N_cut_out ["picture", "window"] (defScope s_cut_out) := ⟨rfl, rfl, rfl, by decide +kernel, rfl, by decide +kernel, by decide +kernel⟩
abbrev bk_cut_out := @L2.blkOk_by N_cut_out (defScope s_cut_out)
abbrev s_law_cell : Stmt := topS 5
abbrev N_law_cell : List Str := ["_law_script", "_law_k", "_law_cell_here", "_law_mixed"]
theorem sc_law_cell : FnScope N_law_cell ["_law_script", "_law_k"] (defScope s_law_cell) := ⟨rfl, rfl, rfl, by decide +kernel, rfl, by decide +kernel, by decide +kernel⟩
abbrev bk_law_cell := @L2.blkOk_by N_law_cell (defScope s_law_cell)
abbrev s_law_whole : Stmt := topS 6
abbrev N_law_whole : List Str := ["_law_found"]
theorem sc_law_whole : FnScope N_law_whole ["_law_found"] (defScope s_law_whole) := ⟨rfl, rfl, rfl, by decide +kernel, rfl, by decide +kernel, by decide +kernel⟩
abbrev bk_law_whole := @L2.blkOk_by N_law_whole (defScope s_law_whole)
abbrev s_law_signs : Stmt := topS 7
abbrev N_law_signs : List Str := ["_law_cell_here", "_law_most", "_law_letters", "_law_step", "_law_k"]
theorem sc_law_signs : FnScope N_law_signs ["_law_cell_here", "_law_most"] (defScope s_law_signs) := ⟨rfl, rfl, rfl, by decide +kernel, rfl, by decide +kernel, by decide +kernel⟩
abbrev bk_law_signs := @L2.blkOk_by N_law_signs (defScope s_law_signs)
abbrev s_law_row : Stmt := topS 8
abbrev N_law_row : List Str := ["_law_cell_here", "_law_wide", "_law_signs_here", "_law_number", "_law_row_here", "_law_j"]
theorem sc_law_row : FnScope N_law_row ["_law_cell_here", "_law_wide", "_law_signs_here"] (defScope s_law_row) := ⟨rfl, rfl, rfl, by decide +kernel, rfl, by decide +kernel, by decide +kernel⟩
abbrev bk_law_row := @L2.blkOk_by N_law_row (defScope s_law_row)
abbrev s_law_texts : Stmt := topS 9
abbrev N_law_texts : List Str := ["_law_found", "_law_due", "_law_row_here"]
theorem sc_law_texts : FnScope N_law_texts ["_law_found", "_law_due"] (defScope s_law_texts) := ⟨rfl, rfl, rfl, by decide +kernel, rfl, by decide +kernel, by decide +kernel⟩
abbrev bk_law_texts := @L2.blkOk_by N_law_texts (defScope s_law_texts)
abbrev s_law_picture : Stmt := topS 10
abbrev N_law_picture : List Str := ["_law_script", "_law_at", "_law_rows", "_law_wide", "_law_signs_here", "_law_k"]
theorem sc_law_picture : FnScope N_law_picture ["_law_script", "_law_at", "_law_rows", "_law_wide", "_law_signs_here"] (defScope s_law_picture) := ⟨rfl, rfl, rfl, by decide +kernel, rfl, by decide +kernel, by decide +kernel⟩
abbrev bk_law_picture := @L2.blkOk_by N_law_picture (defScope s_law_picture)
abbrev s_law_windows : Stmt := topS 11
abbrev N_law_windows : List Str := ["_law_found", "_law_rows", "_law_wide", "_law_ahead", "_law_window", "_law_top", "_law_left", "_law_bottom", "_law_right", "_law_x"]
theorem sc_law_windows : FnScope N_law_windows ["_law_found", "_law_rows", "_law_wide"] (defScope s_law_windows) := ⟨rfl, rfl, rfl, by decide +kernel, rfl, by decide +kernel, by decide +kernel⟩
abbrev bk_law_windows := @L2.blkOk_by N_law_windows (defScope s_law_windows)
abbrev s_law_cut : Stmt := topS 12
abbrev N_law_cut : List Str := ["_law_picture_here", "_law_window", "_law_rows", "_law_k", "_law_row_here", "_law_j"]
theorem sc_law_cut : FnScope N_law_cut ["_law_picture_here", "_law_window"] (defScope s_law_cut) := ⟨rfl, rfl, rfl, by decide +kernel, rfl, by decide +kernel, by decide +kernel⟩
abbrev bk_law_cut := @L2.blkOk_by N_law_cut (defScope s_law_cut)
abbrev s_law : Stmt := topS 13
abbrev N_law : List Str := ["_law_script", "_law_size", "_law_rows", "_law_wide", "_law_picture_here", "_law_handed", "_law_told", "_law_found", "_law_window", "_law_due", "_law_piece", "_law_x"]
theorem sc_law : FnScope N_law ["_law_script"] (defScope s_law) := ⟨rfl, rfl, rfl, by decide +kernel, rfl, by decide +kernel, by decide +kernel⟩
abbrev bk_law := @L2.blkOk_by N_law (defScope s_law)
structure Txt (K : PySem.W.Frag) (mg : Str → Option Value) : Prop where
  b_all : mg "all" = none
  b_bool : mg "bool" = none
  b_int : mg "int" = none
  b_isinstance : mg "isinstance" = none
  b_len : mg "len" = none
  b_list : mg "list" = none
  b_range : mg "range" = none
  b_str : mg "str" = none
  b_tuple : mg "tuple" = none
  f_size_of : Df K mg "size_of" s_size_of ["picture"]
  f_windows_of : Df K mg "windows_of" s_windows_of ["rows", "columns"]
  f_cut_out : Df K mg "cut_out" s_cut_out ["picture", "window"]
  f_law_cell : Df K mg "_law_cell" s_law_cell ["_law_script", "_law_k"]
  f_law_whole : Df K mg "_law_whole" s_law_whole ["_law_found"]
  f_law_signs : Df K mg "_law_signs" s_law_signs ["_law_cell_here", "_law_most"]
  f_law_row : Df K mg "_law_row" s_law_row ["_law_cell_here", "_law_wide", "_law_signs_here"]
  f_law_texts : Df K mg "_law_texts" s_law_texts ["_law_found", "_law_due"]
  f_law_picture : Df K mg "_law_picture" s_law_picture ["_law_script", "_law_at", "_law_rows", "_law_wide", "_law_signs_here"]
  f_law_windows : Df K mg "_law_windows" s_law_windows ["_law_found", "_law_rows", "_law_wide"]
  f_law_cut : Df K mg "_law_cut" s_law_cut ["_law_picture_here", "_law_window"]
/-! ### pictures -/
abbrev Pic := List Tx
/-- a picture of r rows and c columns -/
structure Pk (p : Pic) (r c : Nat) : Prop where
  len : p.length = r
  row : ∀ x ∈ p, x.length = c
  r0 : 0 < r
  c0 : 0 < c
  r6 : r ≤ 6
  c6 : c ≤ 6
theorem Pk.hd {p : Pic} {r c : Nat} (h : Pk p r c) : ∃ x q, p = x :: q ∧ x.length = c := by
  cases p with
  | nil => have := h.len; have := h.r0; simp at *; omega
  | cons x q => exact ⟨x, q, rfl, h.row x (List.mem_cons_self ..)⟩
theorem Pk.head {p : Pic} {r c : Nat} (h : Pk p r c) : atI p 0 = some (p.headD []) ∧ (p.headD []).length = c := by
  obtain ⟨x, q, rfl, e⟩ := h.hd
  exact ⟨atI_nat (j := 0) rfl, e⟩
def quarter (p : Pic) : Pic := (List.range (p.headD []).length).map fun j => p.reverse.map fun row => row.getD j 0
def mirrored (p : Pic) : Pic := p.map List.reverse
def quarters : Nat → Pic → Pic
  | 0, p => p
  | n + 1, p => quarter (quarters n p)
def turned (p : Pic) (t : Nat) : Pic := quarters (t % 4) (if 4 ≤ t then mirrored p else p)
theorem Pk.quarter {p : Pic} {r c : Nat} (h : Pk p r c) : Pk (quarter p) c r := by
  have hl := h.head.2
  refine ⟨by unfold Law.quarter; rw [List.length_map, List.length_range, hl], fun x hx => ?_, h.c0, h.r0, h.c6, h.r6⟩
  unfold Law.quarter at hx
  obtain ⟨j, _, rfl⟩ := List.mem_map.mp hx
  rw [List.length_map, List.length_reverse, h.len]
theorem Pk.mirrored {p : Pic} {r c : Nat} (h : Pk p r c) : Pk (mirrored p) r c := by
  refine ⟨by unfold Law.mirrored; rw [List.length_map, h.len], fun x hx => ?_, h.r0, h.c0, h.r6, h.c6⟩
  unfold Law.mirrored at hx
  obtain ⟨y, hy, rfl⟩ := List.mem_map.mp hx
  rw [List.length_reverse, h.row y hy]
theorem Pk.quarters {p : Pic} {r c : Nat} (h : Pk p r c) : ∀ n, Pk (quarters n p) (if n % 2 = 0 then r else c) (if n % 2 = 0 then c else r)
  | 0 => h
  | n + 1 => by
    have ih := (Pk.quarters h n).quarter
    by_cases e : n % 2 = 0
    · rw [if_pos e, if_pos e] at ih
      rw [if_neg (by omega), if_neg (by omega)]
      exact ih
    · rw [if_neg e, if_neg e] at ih
      rw [if_pos (by omega), if_pos (by omega)]
      exact ih
theorem Pk.turned {p : Pic} {r c : Nat} (h : Pk p r c) (t : Nat) : Pk (turned p t) (if t % 2 = 0 then r else c) (if t % 2 = 0 then c else r) := by
  unfold Law.turned
  have e : (t % 4) % 2 = t % 2 := by omega
  split
  · have := h.mirrored.quarters (t % 4)
    rwa [e] at this
  · have := h.quarters (t % 4)
    rwa [e] at this
theorem Pk.at_row {p : Pic} {r c : Nat} (h : Pk p r c) {i : Nat} (hi : i < r) : atI p (i : Int) = some (p.getD i []) ∧ (p.getD i []).length = c := by
  have hl := h.len
  have e : p[i]? = some p[i] := List.getElem?_eq_getElem (by omega)
  refine ⟨?_, ?_⟩
  · rw [List.getD_eq_getElem?_getD, e]; exact atI_nat e
  · rw [List.getD_eq_getElem?_getD, e]; exact h.row _ (List.getElem_mem _)
def quarterS : Tw.Spec := fun A P _ => ∃ (p : Pic) (r c : Nat), A = [vl p] ∧ Pk p r c ∧ P (rn (quarter p))
def mirroredS : Tw.Spec := fun A P _ => ∃ (p : Pic) (r c : Nat), A = [vl p] ∧ Pk p r c ∧ P (rn (mirrored p))
def turnedS : Tw.Spec := fun A P _ => ∃ (p : Pic) (r c : Nat) (t : Int), A = [vl p, vl t] ∧ Pk p r c ∧ 0 ≤ t ∧ P (rn (turned p t.toNat))
theorem sl6 {n : Nat} (h : n ≤ 6) : n ≤ sizeLine := Nat.le_trans h (by decide)

/-! ### the law's draws -/
def lawCell (s : List Int) (k : Int) : Int :=
  let c := if k < s.length then s.getD k.toNat 0 else 0
  let m := (c % 2147483647 + 7919 * k + 1) * 48271 % 2147483647
  c / 2147483647 * 2147483647 + (m * 69621 + k) % 2147483647
def lawSigns (c m : Int) : Tx := (rng 0 (1 + c % m).toNat).map fun k => 97 + ((c / m / 4 + k * (([1, 3, 5, 7] : List Int).getD (c / m % 4).toNat 0)) % 26).toNat
def rowSt (c : Int) (signs : Tx) : Nat → Int × Tx
  | 0 => (c % 2147483647, [])
  | j + 1 =>
    let q := rowSt c signs j
    let n := (q.1 * 48271 + (j : Int) * (j : Int) + 7) % 2147483647
    (n, q.2 ++ [signs.getD (n / 5 % signs.length).toNat 0])
def lawRow (c : Int) (wide : Nat) (signs : Tx) : Tx := (rowSt c signs wide).2
def lawPicture (s : List Int) (at_ : Int) (rows wide : Nat) (signs : Tx) : Pic := (rng 0 rows).map fun k => lawRow (lawCell s (at_ + k)) wide signs
theorem lawSigns_len {c m : Int} (hm : 0 < m) (h8 : m ≤ 8) : 0 < (lawSigns c m).length ∧ (lawSigns c m).length ≤ 8 := by
  unfold lawSigns
  rw [List.length_map, rng_len]
  have := Int.emod_nonneg c (by omega : m ≠ 0)
  have := Int.emod_lt_of_pos c hm
  omega
theorem lawSigns_ok {c m : Int} : TxOk (lawSigns c m) := by
  intro x hx
  unfold lawSigns at hx
  obtain ⟨k, _, rfl⟩ := List.mem_map.mp hx
  have := Int.emod_lt_of_pos (c / m / 4 + k * (([1, 3, 5, 7] : List Int).getD (c / m % 4).toNat 0)) (by decide : (0 : Int) < 26)
  omega
theorem rowSt_len (c : Int) (signs : Tx) : ∀ n, (rowSt c signs n).2.length = n
  | 0 => rfl
  | n + 1 => by
    show (_ ++ _ : Tx).length = _
    rw [List.length_append, rowSt_len c signs n]
    rfl
theorem getD_ok {signs : Tx} (h : TxOk signs) (n : Nat) : signs.getD n 0 < 1114112 := by
  rw [List.getD_eq_getElem?_getD]
  cases e : signs[n]? with
  | none => decide
  | some x => exact h x (List.mem_of_getElem? e)
theorem rowSt_ok (c : Int) {signs : Tx} (h : TxOk signs) : ∀ n, TxOk (rowSt c signs n).2
  | 0 => fun _ hx => nomatch hx
  | n + 1 => fun x hx => by
    rcases List.mem_append.mp hx with hx | hx
    · exact rowSt_ok c h n x hx
    · rw [List.mem_singleton.mp hx]; exact getD_ok h _
theorem lawPicture_pk {s : List Int} {at_ : Int} {r c : Nat} {signs : Tx} (hr : 0 < r) (hr6 : r ≤ 6) (hc : 0 < c) (hc6 : c ≤ 6) : Pk (lawPicture s at_ r c signs) r c :=
  ⟨by unfold lawPicture; rw [List.length_map, rng_len], fun x hx => by
    unfold lawPicture at hx
    obtain ⟨k, _, rfl⟩ := List.mem_map.mp hx
    exact rowSt_len _ _ _, hr, hc, hr6, hc6⟩
def PicOk (p : Pic) : Prop := ∀ x ∈ p, TxOk x
theorem lawPicture_ok {s : List Int} {at_ : Int} {r c : Nat} {signs : Tx} (h : TxOk signs) : PicOk (lawPicture s at_ r c signs) := fun x hx => by
  unfold lawPicture at hx
  obtain ⟨k, _, rfl⟩ := List.mem_map.mp hx
  exact rowSt_ok _ h _
def cellS : Tw.Spec := fun A P _ => ∃ (s : Scr) (k : Int), A = [vl s, vl k] ∧ s.l.length ≤ 63 ∧ 0 ≤ k ∧ P (rv (lawCell s.l k))
def signsS : Tw.Spec := fun A P _ => ∃ (c m : Int), A = [vl c, vl m] ∧ 0 < m ∧ m ≤ 8 ∧ P (rv (lawSigns c m))
def rowS : Tw.Spec := fun A P _ => ∃ (c : Int) (wide : Nat) (signs : Tx), A = [vl c, vl (wide : Int), vl signs] ∧ wide ≤ 100 ∧ 0 < signs.length ∧ signs.length ≤ 1000 ∧ P (rv (lawRow c wide signs))
def pictureS : Tw.Spec := fun A P _ => ∃ (s : Scr) (at_ : Int) (rows wide : Nat) (signs : Tx), A = [vl s, vl at_, vl (rows : Int), vl (wide : Int), vl signs] ∧ s.l.length ≤ 63 ∧ 0 ≤ at_ ∧ rows ≤ 100 ∧ wide ≤ 100 ∧ 0 < signs.length ∧ signs.length ≤ 1000 ∧ P (rn (lawPicture s.l at_ rows wide signs))
theorem abc_at : ∀ n, n < 26 → (tx "abcdefghijklmnopqrstuvwxyz")[n]? = some (97 + n) := by decide +kernel
section
variable {P : Program} {w : World} {K : PySem.W.Frag} {mg : Str → Option Value} {base : Heap}
theorem mulR {i j : Int} (h1 : -(2 ^ 64) < j := by decide) (h2 : j < 2 ^ 64 := by decide) : CMul i j := .inr ⟨h1, h2⟩
theorem mulL {i j : Int} (h1 : -(2 ^ 64) < i := by decide) (h2 : i < 2 ^ 64 := by decide) : CMul i j := .inl ⟨h1, h2⟩
theorem divK {i j : Int} (h : 0 < j := by decide) (h2 : j.natAbs.log2 < 9000 := by decide) : CDivW i j := ⟨h, h2⟩
theorem divS {i j : Int} (h : 0 < j) (h2 : j < 2 ^ 30) : CDivW i j := ⟨h, by
  have : j.natAbs < 2 ^ 30 := by omega
  exact Nat.lt_trans ((Nat.log2_lt (by omega)).mpr this) (by decide)⟩
theorem ok_law_cell (T : Txt K mg) : Has P w K mg base 1 "_law_cell" ["_law_script", "_law_k"] cellS := by
  refine Has.of T.f_law_cell sc_law_cell (fun A Q R ⟨s, k, e, _⟩ => by rw [e]; rfl) fun f cdv A outer s0 H E hr Γ Q R ⟨s, k, e, hl, hk, hq⟩ => ?_
  subst e
  refine st_set 2 ev_int ?_ sc_law_cell.nd
  have go : ∀ c : Int, c = (if k < s.l.length then s.l.getD k.toNat 0 else 0) → Tw.ST (cxOf (L2.CX P w) P w K mg base N_law_cell "_law_cell" (defScope s_law_cell) f cdv A outer s0 H E).nox ((defBody s_law_cell).drop 2) [vl s, vl k, vl c, .no] ⟨fun _ => Q (.val repUnit ()), Q, fun _ => False, fun _ => False⟩ := by
    intro c ec
    refine st_set 3 (ev_bin (o_mod (by decide)) (ev_bin (o_mul mulR) (ev_bin o_add (ev_bin o_add (ev_bin (o_mod (by decide)) (ev_var 2) ev_int) (ev_bin (o_mul mulL) ev_int (ev_var 1))) ev_int) ev_int) ev_int) ?_ sc_law_cell.nd
    refine st_retV (ev_bin o_add (ev_bin (o_mul mulR) (ev_bin (o_div divK) (ev_var 2) ev_int) ev_int) (ev_bin (o_mod (by decide)) (ev_bin o_add (ev_bin (o_mul mulR) (ev_var 3) ev_int) (ev_var 1)) ev_int)) ?_
    unfold lawCell at hq
    rw [← ec] at hq
    exact hq
  refine st_if (et_cmp o_lt (ev_var 1) (ev_lenScr T.b_len (ev_var 0))) (fun h => ?_) (fun h => ?_)
  · have h1 := of_decide_eq_true h
    have hlt : k.toNat < s.l.length := by omega
    refine st_set 2 (ev_ixScr (x := s.l.getD k.toNat 0) (ev_var 0) (ev_var 1) ?_) (st_nil (go _ ?_)) sc_law_cell.nd
    · have := atI_nat (xs := s.l) (j := k.toNat) (List.getElem?_eq_getElem hlt)
      rw [show ((k.toNat : Nat) : Int) = k by omega] at this
      rw [this, List.getD_eq_getElem?_getD, List.getElem?_eq_getElem hlt]; rfl
    · rw [if_pos h1]
  · have h1 := of_decide_eq_false h
    refine st_nil (go _ ?_)
    rw [if_neg h1]
theorem ok_law_signs (T : Txt K mg) : Has P w K mg base 1 "_law_signs" ["_law_cell_here", "_law_most"] signsS := by
  refine Has.of T.f_law_signs sc_law_signs (fun A Q R ⟨c, m, e, _⟩ => by rw [e]; rfl) fun f cdv A outer s0 H E hr Γ Q R ⟨c, m, e, hm, h8, hq⟩ => ?_
  subst e
  refine st_set 2 (ev_str _) ?_ sc_law_signs.nd
  have dm : CDivW c m := divS hm (by omega)
  have hx : 0 ≤ c / m % 4 ∧ c / m % 4 < 4 := ⟨Int.emod_nonneg _ (by decide), Int.emod_lt_of_pos _ (by decide)⟩
  have hs : atI ([1, 3, 5, 7] : List Int) (c / m % 4) = some (([1, 3, 5, 7] : List Int).getD (c / m % 4).toNat 0) := by
    have h4 : (c / m % 4).toNat < 4 := by omega
    have := atI_nat (xs := ([1, 3, 5, 7] : List Int)) (j := (c / m % 4).toNat) (List.getElem?_eq_getElem h4)
    rw [show (((c / m % 4).toNat : Nat) : Int) = c / m % 4 by omega] at this
    rw [this, List.getD_eq_getElem?_getD, List.getElem?_eq_getElem h4]; rfl
  refine st_set 3 (ev_ixT (ev_tupH (es_cons ev_int (es_cons ev_int (es_cons ev_int (es_cons ev_int es_nil))))) (ev_bin (o_mod (by decide)) (ev_bin (o_div dm) (ev_var 0) (ev_var 1)) ev_int) hs) ?_ sc_law_signs.nd
  have hcm := Int.emod_nonneg c (by omega : m ≠ 0)
  have hcm2 := Int.emod_lt_of_pos c hm
  generalize est : (([1, 3, 5, 7] : List Int).getD (c / m % 4).toNat 0) = st
  have hst : st = 1 ∨ st = 3 ∨ st = 5 ∨ st = 7 := by
    have : ∀ n < 4, (([1, 3, 5, 7] : List Int).getD n 0) = 1 ∨ (([1, 3, 5, 7] : List Int).getD n 0) = 3 ∨ (([1, 3, 5, 7] : List Int).getD n 0) = 5 ∨ (([1, 3, 5, 7] : List Int).getD n 0) = 7 := by decide
    rw [← est]; exact this _ (by omega)
  refine st_retV (ev_join (ev_str "") (ev_of_en (en_lc (α := Int) (β := Tx) (own := [("_law_k", 4)]) (f := fun k => [97 + ((c / m / 4 + k * st) % 26).toNat]) (src_range T.b_range (ev_bin o_add ev_int (ev_bin (o_mod hm) (ev_var 0) (ev_var 1))) (by omega) (by omega)) (tg_name 4) (fun _ _ _ _ _ => pgn 4 sc_law_signs.nd)
    (fun x hx _ _ _ _ _ => ev_ixS (ev_var 2) (ev_bin (o_mod (by decide)) (ev_bin o_add (ev_bin (o_div divK) (ev_bin (o_div dm) (ev_var 0) (ev_var 1)) ev_int) (ev_bin (o_mul (x := x) (y := st) (.inr (by omega))) (ev_var 4) (ev_var 3))) ev_int) ?_ ?_) sc_law_signs.nd (ok := bk_law_signs (by decide +kernel)) (hz := ?_))) ?_) ?_
  · have h1 := Int.emod_nonneg (c / m / 4 + x * st) (by decide : (26 : Int) ≠ 0)
    have h2 := Int.emod_lt_of_pos (c / m / 4 + x * st) (by decide : (0 : Int) < 26)
    have := atI_nat (abc_at ((c / m / 4 + x * st) % 26).toNat (by omega))
    rw [show ((((c / m / 4 + x * st) % 26).toNat : Nat) : Int) = (c / m / 4 + x * st) % 26 by omega] at this
    exact this
  · exact sl_small (by decide +kernel)
  · rw [rng_len]; exact sl_small (by omega)
  · show _ + _ * 0 ≤ _
    rw [sum_ones, rng_len]; omega
  · have e : joinL (tx "") ((rng 0 (1 + c % m).toNat).map fun k => ([97 + ((c / m / 4 + k * st) % 26).toNat] : Tx)) = lawSigns c m := by
      show joinL [] _ = _
      rw [joinOnes]
      unfold lawSigns
      rw [est]
    rw [e]
    exact hq
theorem ok_law_row (T : Txt K mg) : Has P w K mg base 1 "_law_row" ["_law_cell_here", "_law_wide", "_law_signs_here"] rowS := by
  refine Has.of T.f_law_row sc_law_row (fun A Q R ⟨c, m, sg, e, _⟩ => by rw [e]; rfl) fun f cdv A outer s0 H E hr Γ Q R ⟨c, wd, sg, e, hw, hs0, hs1, hq⟩ => ?_
  subst e
  refine st_set 3 (ev_bin (o_mod (by decide)) (ev_var 0) ev_int) ?_ sc_law_row.nd
  refine st_set 4 (ev_str "") ?_ sc_law_row.nd
  refine st_for (xs := rng 0 ((wd : Int)).toNat) (fun k Γ => Le Γ [vl c, vl (wd : Int), vl sg, vl (rowSt c sg k).1, vl (rowSt c sg k).2, .no]) (src_range T.b_range (ev_var 1) (by omega) (by omega)) (tg_name 5) Le.refl
    (fun k x Γ' hk hP => ?_) (fun Γ' hP => ?_) (pgn 5 sc_law_row.nd)
  · obtain ⟨hlt, rfl⟩ := rng_get0 hk
    refine st_le (Le.set hP 5 _) ?_
    refine st_set 3 (ev_bin (o_mod (by decide)) (ev_bin o_add (ev_bin o_add (ev_bin (o_mul mulR) (ev_var 3) ev_int) (ev_bin (o_mul (x := (k : Int)) (y := (k : Int)) (.inl (by omega))) (ev_var 5) (ev_var 5))) ev_int) ev_int) ?_ sc_law_row.nd
    generalize en : ((rowSt c sg k).1 * 48271 + (k : Int) * (k : Int) + 7) % 2147483647 = n
    have h1 := Int.emod_nonneg (n / 5) (by omega : (sg.length : Int) ≠ 0)
    have h2 := Int.emod_lt_of_pos (n / 5) (by omega : (0 : Int) < sg.length)
    have hix : atI sg (n / 5 % sg.length) = some (sg.getD (n / 5 % sg.length).toNat 0) := by
      have h4 : (n / 5 % sg.length).toNat < sg.length := by omega
      have := atI_nat (List.getElem?_eq_getElem h4)
      rw [show (((n / 5 % sg.length).toNat : Nat) : Int) = n / 5 % sg.length by omega] at this
      rw [this, List.getD_eq_getElem?_getD, List.getElem?_eq_getElem h4]; rfl
    refine st_set 4 (ev_bin (o_addS ?_) (ev_var 4) (ev_ixS (ev_var 2) (ev_bin (o_mod (by omega)) (ev_bin (o_div divK) (ev_var 3) ev_int) (ev_lenS T.b_len (ev_var 2) (sl_small hs1))) hix (sl_small hs1))) (st_nil ?_) sc_law_row.nd
    · rw [rowSt_len]; exact sl_small (by show k + 1 ≤ _; omega)
    · show Le _ [vl c, vl (wd : Int), vl sg, vl (((rowSt c sg k).1 * 48271 + (k : Int) * (k : Int) + 7) % 2147483647), vl ((rowSt c sg k).2 ++ [sg.getD (((rowSt c sg k).1 * 48271 + (k : Int) * (k : Int) + 7) % 2147483647 / 5 % sg.length).toNat 0]), .no]
      rw [en]
      exact le_cons (le_cons (le_cons (le_cons (le_cons (le_no le_nil)))))
  · refine st_le hP (st_retV (ev_var 4) ?_)
    rw [rng_len]
    exact hq
theorem ok_law_picture (T : Txt K mg) : Has P w K mg base 2 "_law_picture" ["_law_script", "_law_at", "_law_rows", "_law_wide", "_law_signs_here"] pictureS := by
  refine Has.of T.f_law_picture sc_law_picture (fun A Q R ⟨s, a, r, wd, sg, e, _⟩ => by rw [e]; rfl) fun f cdv A outer s0 H E hr Γ Q R ⟨s, a, r, wd, sg, e, hl, ha, hr1, hw, hs0, hs1, hq⟩ => ?_
  subst e
  refine st_retE (en_lc (α := Int) (β := Tx) (own := [("_law_k", 5)]) (xs := rng 0 ((r : Int)).toNat) (f := fun k => lawRow (lawCell s.l (a + k)) wd sg) (src_range T.b_range (ev_var 2) (by omega) (by omega)) (tg_name 5) (fun _ _ _ _ _ => pgn 5 sc_law_picture.nd)
    (fun x hx _ _ _ _ _ => ev_call (ok_law_row T) (hr.mono (by decide)) (ea_cons (ev_call (ok_law_cell T) (hr.mono (by decide)) (ea_cons (ev_var 0) (ea_cons (ev_bin o_add (ev_var 1) (ev_var 5)) ea_nil)) fun P R h => ⟨_, _, rfl, hl, ?_, h⟩) (ea_cons (ev_var 3) (ea_cons (ev_var 4) ea_nil))) fun P R h => ⟨_, _, _, rfl, hw, hs0, hs1, h⟩) sc_law_picture.nd (ok := bk_law_picture (by decide +kernel)) (hz := ?_)) ?_
  · obtain ⟨k, _, rfl⟩ := rng_mem hx
    omega
  · rw [rng_len]; exact sl_small (by omega)
  · exact hq
end

def wholeS : Tw.Spec := fun A P _ => ∃ (n : Int), A = [vl n] ∧ P (rv true)
section
variable {P : Program} {w : World} {K : PySem.W.Frag} {mg : Str → Option Value} {base : Heap}
theorem ok_law_whole (T : Txt K mg) : Has P w K mg base 1 "_law_whole" ["_law_found"] wholeS := by
  refine Has.of T.f_law_whole sc_law_whole (fun A Q R ⟨n, e, _⟩ => by rw [e]; rfl) fun f cdv A outer s0 H E hr Γ Q R ⟨n, e, hq⟩ => ?_
  subst e
  exact st_retV (ev_and2 (ev_isi (α := Int) "int" true T.b_isinstance T.b_int (ev_var 0)) fun _ => ev_not (ev_isi (α := Int) "bool" false T.b_isinstance T.b_bool (ev_var 0))) hq
end

local macro_rules | `(tactic| walk_at "le") => `(tactic| repeat (first | exact le_nil | refine le_cons ?_ | refine le_no ?_))
/-! ### windows -/
abbrev Win := Tup Int
def win (t l b r : Nat) : Win := ⟨[(t : Int), (l : Int), (b : Int), (r : Int)]⟩
def winR (c t l b : Nat) : List Win := (List.range (c - l)).map fun k => win t l b (l + 1 + k)
def winB (r c t l : Nat) : List Win := (List.range (r - t)).flatMap fun k => winR c t l (t + 1 + k)
def winL (r c t : Nat) : List Win := (List.range c).flatMap fun l => winB r c t l
def windows (r c : Nat) : List Win := (List.range r).flatMap fun t => winL r c t
def fm {A B : Type} (n : Nat) (f : A → List B) (xs : List A) : List B := (xs.take n).flatMap f
theorem range_take {n k : Nat} (h : k ≤ n) : (List.range n).take k = List.range k := by
  rw [List.take_range, Nat.min_eq_left h]
theorem range_flat {A : Type} {k : Nat} (f : Nat → List A) : (List.range (k + 1)).flatMap f = (List.range k).flatMap f ++ f k := by
  rw [List.range_succ, List.flatMap_append]
  simp
/-- a window lies in a size -/
def WinIn (r c : Nat) (x : Win) : Prop := ∃ t l b q : Nat, x = win t l b q ∧ t < b ∧ b ≤ r ∧ l < q ∧ q ≤ c
theorem mem_windows {r c : Nat} {x : Win} (h : x ∈ windows r c) : WinIn r c x := by
  unfold windows winL winB winR at h
  obtain ⟨t, ht, h⟩ := List.mem_flatMap.mp h
  obtain ⟨l, hl, h⟩ := List.mem_flatMap.mp h
  obtain ⟨k, hk, h⟩ := List.mem_flatMap.mp h
  obtain ⟨m, hm, rfl⟩ := List.mem_map.mp h
  have := List.mem_range.mp ht
  have := List.mem_range.mp hl
  have := List.mem_range.mp hk
  have := List.mem_range.mp hm
  exact ⟨t, l, t + 1 + k, l + 1 + m, rfl, by omega, by omega, by omega, by omega⟩
def rising : Win → List Win → Bool
  | _, [] => true
  | a, x :: xs => HT.lexLt a.l x.l && rising x xs
theorem windows_facts : ∀ r < 7, ∀ c < 7, (windows r c).length = r * (r + 1) / 2 * (c * (c + 1) / 2) ∧ rising ⟨[-1, 0, 0, 0]⟩ (windows r c) = true := by decide +kernel
theorem rising_at : ∀ {a : Win} {xs : List Win}, rising a xs = true → ∀ k x, xs[k]? = some x → HT.lexLt ((a :: xs).getD k a).l x.l = true
  | _, [], _, k, x, h => by simp at h
  | a, y :: ys, hr, 0, x, h => by
    have e : y = x := Option.some.inj h
    subst e
    exact (Bool.and_eq_true_iff.mp hr).1
  | a, y :: ys, hr, k + 1, x, h => by
    have := rising_at (Bool.and_eq_true_iff.mp hr).2 k x (by simpa using h)
    rw [List.getD_cons_succ]
    have e : ∀ z : Win, (y :: ys).getD k z = (y :: ys).getD k y := fun z => by
      have hk : k < (y :: ys).length := by
        have := (List.getElem?_eq_some_iff.mp h).1
        simp at this ⊢; omega
      rw [List.getD_eq_getElem?_getD, List.getD_eq_getElem?_getD, List.getElem?_eq_getElem hk]; rfl
    rw [e]
    exact this
def cutOut (p : Pic) (t l b q : Nat) : Pic := ((p.drop t).take (b - t)).map fun row => (row.drop l).take (q - l)
theorem cutL_nat {A : Type} {xs : List A} {a b : Nat} (hb : b ≤ xs.length) (hab : a ≤ b) : cutL xs (some (a : Int)) (some (b : Int)) = (xs.drop a).take (b - a) := by
  unfold cutL
  rw [HT.sIx_nat, HT.sIx_nat, Nat.min_eq_left hb, Nat.min_eq_left (by omega)]
theorem Pk.cut {p : Pic} {r c : Nat} (h : Pk p r c) {t l b q : Nat} (h1 : t < b) (h2 : b ≤ r) (h3 : l < q) (h4 : q ≤ c) : Pk (cutOut p t l b q) (b - t) (q - l) := by
  have hr := h.r6
  have hc := h.c6
  refine ⟨by unfold cutOut; rw [List.length_map, List.length_take, List.length_drop, h.len]; omega, fun x hx => ?_, by omega, by omega, by omega, by omega⟩
  obtain ⟨row, hrow, rfl⟩ := List.mem_map.mp hx
  rw [List.length_take, List.length_drop, h.row row (List.mem_of_mem_drop (List.mem_of_mem_take hrow))]
  omega
theorem PicOk.cut {p : Pic} (h : PicOk p) (t l b q : Nat) : PicOk (cutOut p t l b q) := fun x hx => by
  obtain ⟨row, hrow, rfl⟩ := List.mem_map.mp hx
  exact fun c hc => h row (List.mem_of_mem_drop (List.mem_of_mem_take hrow)) c (List.mem_of_mem_drop (List.mem_of_mem_take hc))
def sizeS : Tw.Spec := fun A P _ => ∃ (p : Pic) (r c : Nat), A = [vl p] ∧ Pk p r c ∧ P (rv (Tup.mk [(r : Int), (c : Int)]))
def windowsS : Tw.Spec := fun A P _ => ∃ (r c : Nat), A = [vl (r : Int), vl (c : Int)] ∧ r ≤ 6 ∧ c ≤ 6 ∧ P (rn (windows r c))
def cutS' : Tw.Spec := fun A P _ => ∃ (p : Pic) (r c t l b q : Nat), A = [vl p, vl (win t l b q)] ∧ Pk p r c ∧ t < b ∧ b ≤ r ∧ l < q ∧ q ≤ c ∧ P (rn (cutOut p t l b q))
theorem flat_len {A B : Type} (xs : List A) (f : A → List B) (n : Nat) (h : ∀ x ∈ xs, (f x).length ≤ n) : (xs.flatMap f).length ≤ xs.length * n := by
  induction xs with
  | nil => simp
  | cons x xs ih =>
    rw [List.flatMap_cons, List.length_append, List.length_cons, Nat.succ_mul]
    have h1 := h x (List.mem_cons_self ..)
    have h2 := ih fun y hy => h y (List.mem_cons_of_mem _ hy)
    omega
theorem wr_len {c t l b : Nat} (hc : c ≤ 6) : (winR c t l b).length ≤ 6 := by unfold winR; simp; omega
theorem wb_len {r c t l : Nat} (k : Nat) (hk : k ≤ 6) (hc : c ≤ 6) : ((List.range k).flatMap fun k => winR c t l (t + 1 + k)).length ≤ 36 := by
  have := flat_len (List.range k) (fun k => winR c t l (t + 1 + k)) 6 fun x _ => wr_len hc
  rw [List.length_range] at this; omega
theorem wl_len {r c t : Nat} (k : Nat) (hk : k ≤ 6) (hr : r ≤ 6) (hc : c ≤ 6) : ((List.range k).flatMap fun l => winB r c t l).length ≤ 216 := by
  have := flat_len (List.range k) (fun l => winB r c t l) 36 fun x _ => wb_len (r := r) (r - t) (by omega) hc
  rw [List.length_range] at this; omega
theorem wn_len {r c : Nat} (k : Nat) (hk : k ≤ 6) (hr : r ≤ 6) (hc : c ≤ 6) : ((List.range k).flatMap fun t => winL r c t).length ≤ 1296 := by
  have := flat_len (List.range k) (fun t => winL r c t) 216 fun x _ => wl_len (r := r) c hc hr hc
  rw [List.length_range] at this; omega
section
variable {P : Program} {w : World} {K : PySem.W.Frag} {mg : Str → Option Value} {base : Heap}
theorem ok_size_of (T : Txt K mg) : Has P w K mg base 1 "size_of" ["picture"] sizeS := by
  refine Has.of T.f_size_of sc_size_of (fun A Q R ⟨p, r, c, e, _⟩ => by rw [e]; rfl) fun f cdv A outer s0 H E hr Γ Q R ⟨p, r, c, e, hp, hq⟩ => ?_
  subst e
  obtain ⟨h0, h1⟩ := hp.head
  have hc6 := hp.c6
  exact st_retV (ev_tupH (es_cons (ev_eq (y := (r : Int)) (ev_len T.b_len (ev_var 0)) (by rw [hp.len])) (es_cons (ev_eq (y := (c : Int)) (ev_lenS T.b_len (ev_ixL (ev_var 0) ev_int h0) (sl6 (by omega))) (by rw [h1])) es_nil))) hq
theorem ok_windows_of (T : Txt K mg) : Has P w K mg base 1 "windows_of" ["rows", "columns"] windowsS := by
  refine Has.of T.f_windows_of sc_windows_of (fun A Q R ⟨r, c, e, _⟩ => by rw [e]; rfl) fun f cdv A outer s0 H E hr Γ Q R ⟨r, c, e, hr6, hc6, hq⟩ => ?_
  subst e
  refine st_setN 2 (en_nil Win) (fun ad => ?_) sc_windows_of.nd
  refine st_for (xs := rng 0 (r : Int).toNat) (fun k Γ => Le Γ [vl (r : Int), vl (c : Int), ls ad ((List.range k).flatMap fun t => winL r c t), .no, .no, .no, .no]) (src_range T.b_range (ev_var 0) (by omega) (by omega)) (tg_name 3) (by walk_at "le")
    (fun t x Γ1 hk1 hP1 => ?_) (fun Γ1 hP1 => ?_) (pgn 3 sc_windows_of.nd)
  rotate_left
  · refine st_le hP1 (st_retL 2 ?_)
    rw [rng_len]
    exact hq
  obtain ⟨ht, rfl⟩ := rng_get0 hk1
  have ht' : t < r := by omega
  refine st_le (Le.set hP1 3 _) ?_
  have n1 := wn_len (r := r) (c := c) t (by omega) hr6 hc6
  generalize hf1 : ((List.range t).flatMap fun t => winL r c t) = f1 at n1
  refine st_for (xs := rng 0 (c : Int).toNat) (fun k Γ => Le Γ [vl (r : Int), vl (c : Int), ls ad (f1 ++ (List.range k).flatMap fun l => winB r c t l), vl (t : Int), .no, .no, .no]) (src_range T.b_range (ev_var 1) (by omega) (by omega)) (tg_name 4) (by
      show Le _ [vl (r : Int), vl (c : Int), ls ad (f1 ++ []), vl (t : Int), .no, .no, .no]
      rw [List.append_nil]; walk_at "le")
    (fun l x Γ2 hk2 hP2 => ?_) (fun Γ2 hP2 => st_nil ?_) (pgn 4 sc_windows_of.nd)
  rotate_left
  · rw [rng_len] at hP2
    refine hP2.trans ?_
    show Le _ [vl (r : Int), vl (c : Int), ls ad ((List.range (t + 1)).flatMap fun t => winL r c t), .no, .no, .no, .no]
    rw [range_flat, hf1]
    unfold winL
    walk_at "le"
  obtain ⟨hl, rfl⟩ := rng_get0 hk2
  have hl' : l < c := by omega
  refine st_le (Le.set hP2 4 _) ?_
  have n2 := wl_len (r := r) (c := c) (t := t) l (by omega) hr6 hc6
  generalize hf2 : ((List.range l).flatMap fun l => winB r c t l) = f2 at n2
  refine st_for (xs := rng ((t : Int) + 1) ((r : Int) + 1 - ((t : Int) + 1)).toNat) (fun k Γ => Le Γ [vl (r : Int), vl (c : Int), ls ad (f1 ++ (f2 ++ (List.range k).flatMap fun k => winR c t l (t + 1 + k))), vl (t : Int), vl (l : Int), .no, .no]) (src_range2 T.b_range (ev_bin o_add (ev_var 3) ev_int) (ev_bin o_add (ev_var 0) ev_int) (by omega)) (tg_name 5) (by
      show Le _ [vl (r : Int), vl (c : Int), ls ad (f1 ++ (f2 ++ [])), vl (t : Int), vl (l : Int), .no, .no]
      rw [List.append_nil]; walk_at "le")
    (fun b x Γ3 hk3 hP3 => ?_) (fun Γ3 hP3 => st_nil ?_) (pgn 5 sc_windows_of.nd)
  rotate_left
  · rw [rng_len] at hP3
    refine hP3.trans ?_
    show Le _ [vl (r : Int), vl (c : Int), ls ad (f1 ++ ((List.range (l + 1)).flatMap fun l => winB r c t l)), vl (t : Int), .no, .no, .no]
    rw [range_flat, hf2]
    unfold winB
    rw [show ((r : Int) + 1 - ((t : Int) + 1)).toNat = r - t by omega]
    walk_at "le"
  obtain ⟨hb, rfl⟩ := rng_get hk3
  refine st_le (Le.set hP3 5 _) ?_
  have n3 := wb_len (r := r) (c := c) (t := t) (l := l) b (by omega) hc6
  generalize hf3 : ((List.range b).flatMap fun k => winR c t l (t + 1 + k)) = f3 at n3
  refine st_for (xs := rng ((l : Int) + 1) ((c : Int) + 1 - ((l : Int) + 1)).toNat) (fun k Γ => Le Γ [vl (r : Int), vl (c : Int), ls ad (f1 ++ (f2 ++ (f3 ++ (List.range k).map fun k => win t l (t + 1 + b) (l + 1 + k)))), vl (t : Int), vl (l : Int), vl ((t : Int) + 1 + (b : Int)), .no]) (src_range2 T.b_range (ev_bin o_add (ev_var 4) ev_int) (ev_bin o_add (ev_var 1) ev_int) (by omega)) (tg_name 6) (by
      show Le _ [vl (r : Int), vl (c : Int), ls ad (f1 ++ (f2 ++ (f3 ++ []))), vl (t : Int), vl (l : Int), vl ((t : Int) + 1 + (b : Int)), .no]
      rw [List.append_nil]; walk_at "le")
    (fun q x Γ4 hk4 hP4 => ?_) (fun Γ4 hP4 => st_nil ?_) (pgn 6 sc_windows_of.nd)
  rotate_left
  · rw [rng_len] at hP4
    refine hP4.trans ?_
    show Le _ [vl (r : Int), vl (c : Int), ls ad (f1 ++ (f2 ++ ((List.range (b + 1)).flatMap fun k => winR c t l (t + 1 + k)))), vl (t : Int), vl (l : Int), .no, .no]
    rw [range_flat, hf3]
    unfold winR
    rw [show ((c : Int) + 1 - ((l : Int) + 1)).toNat = c - l by omega]
    walk_at "le"
  obtain ⟨hq', rfl⟩ := rng_get hk4
  refine st_le (Le.set hP4 6 _) ?_
  refine st_append 2 (ev_tupH (es_cons (ev_var 3) (es_cons (ev_var 4) (es_cons (ev_var 5) (es_cons (ev_var 6) es_nil))))) (st_nil ?_) ?_
  · show Le _ [vl (r : Int), vl (c : Int), ls ad (f1 ++ (f2 ++ (f3 ++ (List.range (q + 1)).map fun k => win t l (t + 1 + b) (l + 1 + k)))), vl (t : Int), vl (l : Int), vl ((t : Int) + 1 + (b : Int)), .no]
    have ew : win t l (t + 1 + b) (l + 1 + q) = (⟨[(t : Int), (l : Int), (t : Int) + 1 + (b : Int), (l : Int) + 1 + (q : Int)]⟩ : Win) := by
      unfold win
      congr 1
    rw [List.range_succ, List.map_append, List.map_singleton, ew]
    simp only [← List.append_assoc]
    walk_at "le"
  · refine Nat.lt_of_le_of_lt ?_ (show 2000 < sizeLine by decide)
    simp only [List.length_append, List.length_map, List.length_range]
    omega
theorem ok_cut_out (T : Txt K mg) : Has P w K mg base 1 "cut_out" ["picture", "window"] cutS' := by
  refine Has.of T.f_cut_out sc_cut_out (fun A Q R ⟨p, r, c, t, l, b, q, e, _⟩ => by rw [e]; rfl) fun f cdv A outer s0 H E hr Γ Q R ⟨p, r, c, t, l, b, q, e, hp, h1, h2, h3, h4, hq⟩ => ?_
  subst e
  have hc6 := hp.c6
  have hr6 := hp.r6
  refine st_unpack4 2 3 4 5 (ev_var 1) ?_ (pg4 2 3 4 5 sc_cut_out.nd rfl (pgn 2 sc_cut_out.nd) (pgn 3 sc_cut_out.nd) (pgn 4 sc_cut_out.nd) (pgn 5 sc_cut_out.nd))
  have e1 : cutL p (some (t : Int)) (some (b : Int)) = (p.drop t).take (b - t) := cutL_nat (by rw [hp.len]; exact h2) (by omega)
  refine st_retE (en_lc (α := Tx) (β := Tx) (own := [("row", 6)]) (xs := (p.drop t).take (b - t)) (f := fun row => (row.drop l).take (q - l)) (src_list (ev_of_en (en_eq (en_sliceL (o1 := some (t : Int)) (o2 := some (b : Int)) (ev_var 0) (ev_var 2) (ev_var 4)) e1))) (tg_name 6) (fun _ _ _ _ _ => pgn 6 sc_cut_out.nd)
    (fun x hx _ _ _ _ _ => ev_eq (ev_sliceS (o1 := some (l : Int)) (o2 := some (q : Int)) (ev_var 6) (ev_var 3) (ev_var 5) ?_) (cutL_nat ?_ (by omega))) sc_cut_out.nd (ok := bk_cut_out (by decide +kernel)) (hz := ?_)) hq
  · rw [hp.row x (List.mem_of_mem_drop (List.mem_of_mem_take hx))]; exact sl6 hc6
  · rw [hp.row x (List.mem_of_mem_drop (List.mem_of_mem_take hx))]; exact h4
  · rw [List.length_take, List.length_drop, hp.len]; exact sl6 (by omega)
end

def textsS : Tw.Spec := fun A P _ => ∃ (p q : Pic), A = [vl p, vl q] ∧ p.length ≤ 6 ∧ PicOk p ∧ PicOk q ∧ P (rv (decide (p = q)))
def lwindowsS : Tw.Spec := fun A P _ => ∃ (r c : Nat), A = [vl (windows r c), vl (r : Int), vl (c : Int)] ∧ r ≤ 6 ∧ c ≤ 6 ∧ P (rv true)
def lcutS : Tw.Spec := fun A P _ => ∃ (p : Pic) (r c t l b q : Nat), A = [vl p, vl (win t l b q)] ∧ Pk p r c ∧ t < b ∧ b ≤ r ∧ l < q ∧ q ≤ c ∧ P (rn (cutOut p t l b q))
theorem all_id {A : Type} (xs : List A) : (xs.map fun _ => true).all id = true := by simp
section
variable {P : Program} {w : World} {K : PySem.W.Frag} {mg : Str → Option Value} {base : Heap}
theorem ok_law_texts (T : Txt K mg) : Has P w K mg base 1 "_law_texts" ["_law_found", "_law_due"] textsS := by
  refine Has.of T.f_law_texts sc_law_texts (fun A Q R ⟨p, q, e, _⟩ => by rw [e]; rfl) fun f cdv A outer s0 H E hr Γ Q R ⟨p, q, e, hl, hp, hq', hq⟩ => ?_
  subst e
  refine st_if (et_or (et_not (et_val (ev_isi (α := Pic) "list" true T.b_isinstance T.b_list (ev_var 0)))) fun _ => et_cmp (o_neD (α := Pic) hr hp hq') (ev_var 0) (ev_var 1)) (fun h => ?_) (fun h => ?_)
  · have : decide (p = q) = false := by simpa using h
    rw [this] at hq
    exact st_retV ev_bl hq
  · have : decide (p = q) = true := by simpa using h
    rw [this] at hq
    refine st_nil (st_retV (ev_eq (ev_all T.b_all (ev_of_en (en_lc (α := Tx) (β := Bool) (own := [("_law_row_here", 2)]) (f := fun _ => true) (src_list (ev_var 0)) (tg_name 2) (fun _ _ _ _ _ => pgn 2 sc_law_texts.nd)
      (fun x hx _ _ _ _ _ => ev_isi (α := Tx) "str" true T.b_isinstance T.b_str (ev_var 2)) sc_law_texts.nd (ok := bk_law_texts (by decide +kernel)) (hz := sl6 hl)))) (all_id p)) hq)
theorem ok_law_windows (T : Txt K mg) : Has P w K mg base 2 "_law_windows" ["_law_found", "_law_rows", "_law_wide"] lwindowsS := by
  refine Has.of T.f_law_windows sc_law_windows (fun A Q R ⟨r, c, e, _⟩ => by rw [e]; rfl) fun f cdv A outer s0 H E hr Γ Q R ⟨r, c, e, hr6, hc6, hq⟩ => ?_
  subst e
  obtain ⟨hlen, hris⟩ := windows_facts r (by omega) c (by omega)
  have hmem : ∀ x ∈ windows r c, WinIn r c x := fun x => mem_windows
  generalize windows r c = ws at hlen hris hmem
  have hlen' : (ws.length : Int) = (r : Int) * ((r : Int) + 1) / 2 * ((c : Int) * ((c : Int) + 1) / 2) := by
    rw [hlen]; push_cast; rfl
  have b1 : ∀ n : Int, 0 ≤ n → n ≤ 6 → n * (n + 1) ≤ 42 ∧ 0 ≤ n * (n + 1) := fun n h1 h2 => by
    constructor
    · exact Int.le_trans (Int.mul_le_mul h2 (by omega : n + 1 ≤ 7) (by omega) (by omega)) (by decide)
    · exact Int.mul_nonneg h1 (by omega)
  have br := b1 r (by omega) (by omega)
  have bc := b1 c (by omega) (by omega)
  refine st_if (k := false) (et_eq (et_or (et_not (et_val (ev_isi (α := List Win) "list" true T.b_isinstance T.b_list (ev_var 0)))) fun _ => et_cmp o_ne (ev_len T.b_len (ev_var 0))
    (ev_bin (o_mul (x := (r : Int) * ((r : Int) + 1) / 2) (y := (c : Int) * ((c : Int) + 1) / 2) (.inl (by omega))) (ev_bin (o_div divK) (ev_bin (o_mul (x := (r : Int)) (y := (r : Int) + 1) (.inl (by omega))) (ev_var 1) (ev_bin o_add (ev_var 1) ev_int)) ev_int) (ev_bin (o_div divK) (ev_bin (o_mul (x := (c : Int)) (y := (c : Int) + 1) (.inl (by omega))) (ev_var 2) (ev_bin o_add (ev_var 2) ev_int)) ev_int))) (by rw [hlen']; simp)) (fun h => nomatch h) (fun _ => st_nil ?_)
  refine st_set 3 (ev_tupH (es_cons (ev_neg ev_int) (es_cons ev_int (es_cons ev_int (es_cons ev_int es_nil))))) ?_ sc_law_windows.nd
  refine st_for (xs := ws) (fun k Γ => Le Γ [vl ws, vl (r : Int), vl (c : Int), vl (((⟨[-1, 0, 0, 0]⟩ : Win) :: ws).getD k ⟨[-1, 0, 0, 0]⟩), .no, .no, .no, .no, .no, .no]) (src_list (ev_var 0)) (tg_name 4) Le.refl
    (fun k x Γ' hk hP => ?_) (fun Γ' hP => st_le hP (st_retV ev_bl hq)) (pgn 4 sc_law_windows.nd)
  have hlt := rising_at hris k x hk
  have hnext : ((⟨[-1, 0, 0, 0]⟩ : Win) :: ws).getD (k + 1) ⟨[-1, 0, 0, 0]⟩ = x := by
    rw [List.getD_cons_succ, List.getD_eq_getElem?_getD, hk]; rfl
  generalize ((⟨[-1, 0, 0, 0]⟩ : Win) :: ws).getD k ⟨[-1, 0, 0, 0]⟩ = ahead at hP hlt
  obtain ⟨t, l, b, q, rfl, h1, h2, h3, h4⟩ := hmem x (List.mem_of_getElem? hk)
  refine st_le (Le.set hP 4 _) ?_
  refine st_if (k := false) (et_eq (et_or3 (et_not (et_val (ev_isi (α := Win) "tuple" true T.b_isinstance T.b_tuple (ev_var 4)))) (fun _ => et_cmp o_ne (ev_lenT T.b_len (ev_var 4)) ev_int)
    fun _ _ => et_not (et_val (ev_eq (ev_all T.b_all (ev_of_en (en_lc (α := Int) (β := Bool) (own := [("_law_x", 9)]) (f := fun _ => true) (src_tup (ev_var 4)) (tg_name 9) (fun _ _ _ _ _ => pgn 9 sc_law_windows.nd)
      (fun x hx _ _ _ _ _ => ev_call (x := true) (ok_law_whole T) (hr.mono (by decide)) (ea_cons (ev_var 9) ea_nil) fun P R h => ⟨_, rfl, h⟩) sc_law_windows.nd (ok := bk_law_windows (by decide +kernel)) (hz := sl6 (by show 4 ≤ 6; decide))))) (all_id _)))) (by rfl)) (fun h => nomatch h) (fun _ => st_nil ?_)
  refine st_unpack4 5 6 7 8 (ev_var 4) ?_ (pg4 5 6 7 8 sc_law_windows.nd rfl (pgn 5 sc_law_windows.nd) (pgn 6 sc_law_windows.nd) (pgn 7 sc_law_windows.nd) (pgn 8 sc_law_windows.nd))
  refine st_if (k := false) (et_eq (et_or3 (et_not (et_chain3 o_le (fun _ => o_lt) (fun _ _ => o_le) ev_int (ev_var 5) (fun _ => ev_var 7) (fun _ _ => ev_var 1))) (fun _ => et_not (et_chain3 o_le (fun _ => o_lt) (fun _ _ => o_le) ev_int (ev_var 6) (fun _ => ev_var 8) (fun _ _ => ev_var 2)))
    fun _ _ => et_not (et_cmp (o_ltT hr) (ev_var 3) (ev_var 4))) ?_) (fun h => nomatch h) (fun _ => st_nil ?_)
  · rw [hlt]
    simp
    omega
  refine st_set 3 (ev_var 4) (st_nil ?_) sc_law_windows.nd
  rw [hnext]
  show Le _ _
  walk_at "le"
theorem ok_law_cut (T : Txt K mg) : Has P w K mg base 1 "_law_cut" ["_law_picture_here", "_law_window"] lcutS := by
  refine Has.of T.f_law_cut sc_law_cut (fun A Q R ⟨p, r, c, t, l, b, q, e, _⟩ => by rw [e]; rfl) fun f cdv A outer s0 H E hr Γ Q R ⟨p, r, c, t, l, b, q, e, hp, h1, h2, h3, h4, hq⟩ => ?_
  subst e
  have hr6 := hp.r6
  have hc6 := hp.c6
  have a0 : atI [(t : Int), (l : Int), (b : Int), (q : Int)] 0 = some (t : Int) := atI_nat (j := 0) rfl
  have a1 : atI [(t : Int), (l : Int), (b : Int), (q : Int)] 1 = some (l : Int) := atI_nat (j := 1) rfl
  have a2 : atI [(t : Int), (l : Int), (b : Int), (q : Int)] 2 = some (b : Int) := atI_nat (j := 2) rfl
  have a3 : atI [(t : Int), (l : Int), (b : Int), (q : Int)] 3 = some (q : Int) := atI_nat (j := 3) rfl
  have hcut := hp.cut h1 h2 h3 h4
  refine st_setN 2 (en_nil Tx) (fun ad => ?_) sc_law_cut.nd
  refine st_for (xs := rng (t : Int) ((b : Int) - (t : Int)).toNat) (fun k Γ => Le Γ [vl p, vl (win t l b q), ls ad ((cutOut p t l b q).take k), .no, .no, .no]) (src_range2 T.b_range (ev_ixT (xs := win t l b q) (ev_var 1) ev_int a0) (ev_ixT (xs := win t l b q) (ev_var 1) ev_int a2) (by omega)) (tg_name 3) (by walk_at "le")
    (fun k x Γ1 hk1 hP1 => ?_) (fun Γ1 hP1 => ?_) (pgn 3 sc_law_cut.nd)
  rotate_left
  · rw [rng_len, List.take_of_length_le (by rw [hcut.len]; omega)] at hP1
    exact st_le hP1 (st_retL 2 hq)
  obtain ⟨hk, rfl⟩ := rng_get hk1
  refine st_le (Le.set hP1 3 _) ?_
  obtain ⟨hrow, hrl⟩ := hp.at_row (i := t + k) (by omega)
  have hpk : p[t + k]? = some (p.getD (t + k) []) := by
    have hl := hp.len
    rw [List.getD_eq_getElem?_getD, List.getElem?_eq_getElem (by omega)]; rfl
  generalize p.getD (t + k) [] = row at hrow hrl hpk
  have hcr : (cutOut p t l b q)[k]? = some ((row.drop l).take (q - l)) := by
    unfold cutOut
    rw [List.getElem?_map, List.getElem?_take_of_lt (by omega), List.getElem?_drop, hpk]; rfl
  refine st_set 4 (ev_str "") ?_ sc_law_cut.nd
  refine st_for (xs := rng (l : Int) ((q : Int) - (l : Int)).toNat) (fun j Γ => Le Γ [vl p, vl (win t l b q), ls ad ((cutOut p t l b q).take k), vl ((t : Int) + (k : Int)), vl (((row.drop l).take (q - l)).take j), .no]) (src_range2 T.b_range (ev_ixT (xs := win t l b q) (ev_var 1) ev_int a1) (ev_ixT (xs := win t l b q) (ev_var 1) ev_int a3) (by omega)) (tg_name 5) (by walk_at "le")
    (fun j x Γ2 hk2 hP2 => ?_) (fun Γ2 hP2 => ?_) (pgn 5 sc_law_cut.nd)
  · obtain ⟨hj, rfl⟩ := rng_get hk2
    refine st_le (Le.set hP2 5 _) ?_
    have hz : atI row ((l : Int) + (j : Int)) = some (row.getD (l + j) 0) := by
      rw [List.getD_eq_getElem?_getD, List.getElem?_eq_getElem (by omega)]
      exact atI_nat (List.getElem?_eq_getElem (by omega))
    have hs : ((row.drop l).take (q - l))[j]? = some (row.getD (l + j) 0) := by
      rw [List.getElem?_take_of_lt (by omega), List.getElem?_drop, List.getD_eq_getElem?_getD, List.getElem?_eq_getElem (by omega)]; rfl
    refine st_set 4 (ev_eq (ev_bin (o_addS (y := [row.getD (l + j) 0]) ?_) (ev_var 4) (ev_ixS (ev_ixL (ev_var 0) (ev_var 3) hrow) (ev_var 5) hz (sl6 (by omega)))) (take_snoc hs).symm) (st_nil ?_) sc_law_cut.nd
    · refine sl_small ?_
      simp only [List.length_take, List.length_drop, List.length_cons, List.length_nil]
      omega
    · show Le _ _
      walk_at "le"
  · rw [rng_len, List.take_of_length_le (l := (row.drop l).take (q - l)) (by simp only [List.length_take, List.length_drop]; omega)] at hP2
    refine st_le hP2 ?_
    refine st_append 2 (ev_var 4) (st_nil ?_) ?_
    · show Le _ _
      rw [take_snoc hcr]
      walk_at "le"
    · rw [List.length_take]
      exact lt_line (by have := hcut.len; omega)
theorem body_law (T : Txt K mg) : BodyOk P w K mg base 20 "law" s_law N_law ["_law_script"] lawS := by
  intro f cdv A outer s0 H E hr Γ Q R ⟨s, e, hl, hq⟩
  subst e
  refine st_set 1 (ev_bin (o_mod (by decide)) (ev_call (ok_law_cell T) (hr.mono (by decide)) (ea_cons (ev_var 0) (ea_cons ev_int ea_nil)) fun P R h => ⟨_, _, rfl, hl, by decide, h⟩) ev_int) ?_ sc_law.nd
  have h1 := Int.emod_nonneg (lawCell s.l 1) (by decide : (36 : Int) ≠ 0)
  have h2 := Int.emod_lt_of_pos (lawCell s.l 1) (by decide : (0 : Int) < 36)
  generalize lawCell s.l 1 % 36 = size at h1 h2
  have hsg := lawSigns_len (c := lawCell s.l 0) (m := 4) (by decide) (by decide)
  have hsok := lawSigns_ok (c := lawCell s.l 0) (m := 4)
  obtain ⟨rr, er⟩ : ∃ rr : Nat, 1 + size / 6 = (rr : Int) := ⟨(1 + size / 6).toNat, by omega⟩
  obtain ⟨cc, ec⟩ : ∃ cc : Nat, 1 + size % 6 = (cc : Int) := ⟨(1 + size % 6).toNat, by omega⟩
  refine st_set 2 (ev_eq (ev_bin o_add ev_int (ev_bin (o_div divK) (ev_var 1) ev_int)) er) ?_ sc_law.nd
  refine st_set 3 (ev_eq (ev_bin o_add ev_int (ev_bin (o_mod (by decide)) (ev_var 1) ev_int)) ec) ?_ sc_law.nd
  refine st_set 4 (ev_of_en (en_call (ok_law_picture T) (hr.mono (by decide)) (ea_cons (ev_var 0) (ea_cons ev_int (ea_cons (ev_var 2) (ea_cons (ev_var 3)
    (ea_cons (ev_call (ok_law_signs T) (hr.mono (by decide)) (ea_cons (ev_call (ok_law_cell T) (hr.mono (by decide)) (ea_cons (ev_var 0) (ea_cons ev_int ea_nil)) fun P R h => ⟨_, _, rfl, hl, by decide, h⟩) (ea_cons ev_int ea_nil)) fun P R h => ⟨_, _, rfl, by decide, by decide, h⟩) ea_nil)))))
    fun P R h => ⟨_, _, _, _, _, rfl, hl, by decide, by omega, by omega, hsg.1, by omega, h⟩)) ?_ sc_law.nd
  have hp : Pk (lawPicture s.l 2 rr cc (lawSigns (lawCell s.l 0) 4)) rr cc := lawPicture_pk (by omega) (by omega) (by omega) (by omega)
  have ho : PicOk (lawPicture s.l 2 rr cc (lawSigns (lawCell s.l 0) 4)) := lawPicture_ok hsok
  generalize lawPicture s.l 2 rr cc (lawSigns (lawCell s.l 0) 4) = p at hp ho
  refine st_set 5 (ev_of_en (en_list T.b_list (ev_var 4))) ?_ sc_law.nd
  refine st_set 6 (ev_call (ok_size_of T) (hr.mono (by decide)) (ea_cons (ev_var 5) ea_nil) fun P R h => ⟨_, _, _, rfl, hp, h⟩) ?_ sc_law.nd
  refine st_if (k := false) (et_eq (et_or3 (et_not (et_val (ev_isi (α := Tup Int) "tuple" true T.b_isinstance T.b_tuple (ev_var 6)))) (fun _ => et_cmp (o_neD (α := Tup Int) hr (fun _ _ => trivial) (fun _ _ => trivial)) (ev_var 6) (ev_tupH (es_cons (ev_var 2) (es_cons (ev_var 3) es_nil))))
    fun _ _ => et_not (et_val (ev_eq (ev_all T.b_all (ev_of_en (en_lc (α := Int) (β := Bool) (own := [("_law_x", 11)]) (f := fun _ => true) (src_tup (ev_var 6)) (tg_name 11) (fun _ _ _ _ _ => pgn 11 sc_law.nd)
      (fun x hx _ _ _ _ _ => ev_call (x := true) (ok_law_whole T) (hr.mono (by decide)) (ea_cons (ev_var 11) ea_nil) fun P R h => ⟨_, rfl, h⟩) sc_law.nd (ok := bk_law (by decide +kernel)) (hz := sl6 (by show 2 ≤ 6; decide))))) (all_id _)))) (by simp)) (fun h => nomatch h) (fun _ => st_nil ?_)
  have hr6 := hp.r6
  have hc6 := hp.c6
  refine st_setN 7 (en_call (ok_windows_of T) (hr.mono (by decide)) (ea_cons (ev_var 2) (ea_cons (ev_var 3) ea_nil)) fun P R h => ⟨rr, cc, rfl, hr6, hc6, h⟩) (fun ad => ?_) sc_law.nd
  refine st_if (k := false) (et_eq (et_not (et_val (ev_lend 7 (ev_call (x := true) (ok_law_windows T) (hr.mono (by decide)) (ea_cons (ev_var 7) (ea_cons (ev_var 2) (ea_cons (ev_var 3) ea_nil))) fun P R h => ⟨rr, cc, rfl, hr6, hc6, h⟩)))) rfl) (fun h => nomatch h) (fun _ => st_nil ?_)
  have hmem : ∀ x ∈ windows rr cc, WinIn rr cc x := fun x => mem_windows
  have hlen : (windows rr cc).length ≤ 1296 := wn_len rr hr6 hr6 hc6
  generalize hws : windows rr cc = ws at hmem hlen
  refine st_forO 7 (i := repTup) (ad := ad) (xs := ws) (fun k Γ => Le Γ [vl s, vl size, vl (rr : Int), vl (cc : Int), vl p, vl p, .no, ls ad ws, .no, .no, .no, .no]) (tg_name 8) (by walk_at "le") (fun k Γ' hP => ?_)
    (fun k x Γ1 hk hP1 => ?_) (fun Γ1 hP1 => st_le hP1 ?_) (pgn 8 sc_law.nd)
  · rcases hP.2 7 _ rfl with z | z
    · cases z
    · exact z
  · obtain ⟨t, l, b, q, rfl, g1, g2, g3, g4⟩ := hmem x (List.mem_of_getElem? hk)
    refine st_le (Le.set hP1 8 _) ?_
    have hcut := hp.cut g1 g2 g3 g4
    have hcl : (cutOut p t l b q).length ≤ 6 := by rw [hcut.len]; exact hcut.r6
    have hco := ho.cut t l b q
    refine st_set 9 (ev_of_en (en_call (ok_law_cut T) (hr.mono (by decide)) (ea_cons (ev_var 4) (ea_cons (ev_var 8) ea_nil)) fun P R h => ⟨_, _, _, _, _, _, _, rfl, hp, g1, g2, g3, g4, h⟩)) ?_ sc_law.nd
    refine st_setN 10 (en_call (ok_cut_out T) (hr.mono (by decide)) (ea_cons (ev_var 5) (ea_cons (ev_var 8) ea_nil)) fun P R h => ⟨_, _, _, _, _, _, _, rfl, hp, g1, g2, g3, g4, h⟩) (fun a2 => ?_) sc_law.nd
    refine st_if (k := false) (et_eq (et_not (et_val (ev_lend 10 (ev_call (x := decide (cutOut p t l b q = cutOut p t l b q)) (ok_law_texts T) (hr.mono (by decide)) (ea_cons (ev_var 10) (ea_cons (ev_var 9) ea_nil)) fun P R h => ⟨_, _, rfl, hcl, hco, hco, h⟩)))) (by simp)) (fun h => nomatch h) (fun _ => st_nil ?_)
    refine st_append (α := Tx) (i := repTx) (ad := a2) (xs := cutOut p t l b q) 10 (ev_str "") ?_ (lt_line (by omega))
    refine st_if (k := false) (et_eq (et_or (et_cmp (o_neD (α := Pic) hr ho ho) (ev_var 5) (ev_var 4)) fun _ => et_cmp (o_neD (α := Pic) hr hco hco) (ev_of_en (en_call (ok_cut_out T) (hr.mono (by decide)) (ea_cons (ev_var 5) (ea_cons (ev_var 8) ea_nil)) fun P R h => ⟨_, _, _, _, _, _, _, rfl, hp, g1, g2, g3, g4, h⟩)) (ev_var 9)) (by simp)) (fun h => nomatch h) (fun _ => st_nil (st_nil ?_))
    show Le _ _
    walk_at "le"
  · refine st_appendAny 7 (ex_of_ev (P := fun _ => True) ev_int trivial) ?_ (Nat.lt_of_le_of_lt hlen (by decide))
    refine st_retV (ev_call (x := true) (ok_law_windows T) (hr.mono (by decide)) (ea_cons (ev_of_en (en_call (ok_windows_of T) (hr.mono (by decide)) (ea_cons (ev_var 2) (ea_cons (ev_var 3) ea_nil)) fun P R h => ⟨rr, cc, rfl, hr6, hc6, h⟩)) (ea_cons (ev_var 2) (ea_cons (ev_var 3) ea_nil))) fun P R h => ⟨rr, cc, rfl, hr6, hc6, h⟩) hq
end

theorem df_of {K : PySem.W.Frag} {h : Heap} {mg : Str → Option Value} {n : Str} {st : Stmt} {ps : List Str} {f : Addr} {oc : Value} {od an : Option Addr} {osl : Array (Option Value)} {kV doc pm cdv ct : Value} (X : K.In h) (G : h.Ns mainGlobals mg) (a : PySem.W.nsIn K mainGlobals n = some (some (.ref f))) (l : K.lookup f = some ⟨oc, od, .func (PySem.W.fnOf n n (defArgs st) (defBody st) (defScope st) .none kV doc pm an cdv ct), osl⟩)
    (c : PySem.W.codeIn K cdv n = true) (k : PySem.W.keepIn K (.ref f) = true)
    (hb : ∀ (kV doc pm : Value) (an : Option Addr) (cdv ct : Value) (us : List Value), us.length = ps.length → bindArgs (PySem.W.fnOf n n (defArgs st) (defBody st) (defScope st) .none kV doc pm an cdv ct) ⟨us, []⟩ = pure (ps.zip us)) : Df K mg n st ps :=
  ⟨f, _, fun_mk l c k, (fun_mk (st := st) l c k).binds hb, PySem.W.mg_of X G a⟩
theorem txt_mk {K : PySem.W.Frag} {h : Heap} {mg : Str → Option Value} (X : K.In h) (G : h.Ns mainGlobals mg)
    (zb_all : PySem.W.nsIn K mainGlobals "all" = some none)
    (zb_bool : PySem.W.nsIn K mainGlobals "bool" = some none)
    (zb_int : PySem.W.nsIn K mainGlobals "int" = some none)
    (zb_isinstance : PySem.W.nsIn K mainGlobals "isinstance" = some none)
    (zb_len : PySem.W.nsIn K mainGlobals "len" = some none)
    (zb_list : PySem.W.nsIn K mainGlobals "list" = some none)
    (zb_range : PySem.W.nsIn K mainGlobals "range" = some none)
    (zb_str : PySem.W.nsIn K mainGlobals "str" = some none)
    (zb_tuple : PySem.W.nsIn K mainGlobals "tuple" = some none)
    {f_size_of : Addr} {od_size_of an_size_of : Option Addr} {sl_size_of : Array (Option Value)} {oc_size_of kV_size_of dc_size_of pm_size_of cd_size_of ct_size_of : Value} (a_size_of : PySem.W.nsIn K mainGlobals "size_of" = some (some (.ref f_size_of))) (l_size_of : K.lookup f_size_of = some ⟨oc_size_of, od_size_of, .func (PySem.W.fnOf "size_of" "size_of" (defArgs s_size_of) (defBody s_size_of) (defScope s_size_of) .none kV_size_of dc_size_of pm_size_of an_size_of cd_size_of ct_size_of), sl_size_of⟩) (c_size_of : PySem.W.codeIn K cd_size_of "size_of" = true) (k_size_of : PySem.W.keepIn K (.ref f_size_of) = true)
    {f_windows_of : Addr} {od_windows_of an_windows_of : Option Addr} {sl_windows_of : Array (Option Value)} {oc_windows_of kV_windows_of dc_windows_of pm_windows_of cd_windows_of ct_windows_of : Value} (a_windows_of : PySem.W.nsIn K mainGlobals "windows_of" = some (some (.ref f_windows_of))) (l_windows_of : K.lookup f_windows_of = some ⟨oc_windows_of, od_windows_of, .func (PySem.W.fnOf "windows_of" "windows_of" (defArgs s_windows_of) (defBody s_windows_of) (defScope s_windows_of) .none kV_windows_of dc_windows_of pm_windows_of an_windows_of cd_windows_of ct_windows_of), sl_windows_of⟩) (c_windows_of : PySem.W.codeIn K cd_windows_of "windows_of" = true) (k_windows_of : PySem.W.keepIn K (.ref f_windows_of) = true)
    {f_cut_out : Addr} {od_cut_out an_cut_out : Option Addr} {sl_cut_out : Array (Option Value)} {oc_cut_out kV_cut_out dc_cut_out pm_cut_out cd_cut_out ct_cut_out : Value} (a_cut_out : PySem.W.nsIn K mainGlobals "cut_out" = some (some (.ref f_cut_out))) (l_cut_out : K.lookup f_cut_out = some ⟨oc_cut_out, od_cut_out, .func (PySem.W.fnOf "cut_out" "cut_out" (defArgs s_cut_out) (defBody s_cut_out) (defScope s_cut_out) .none kV_cut_out dc_cut_out pm_cut_out an_cut_out cd_cut_out ct_cut_out), sl_cut_out⟩) (c_cut_out : PySem.W.codeIn K cd_cut_out "cut_out" = true) (k_cut_out : PySem.W.keepIn K (.ref f_cut_out) = true)
    {f_law_cell : Addr} {od_law_cell an_law_cell : Option Addr} {sl_law_cell : Array (Option Value)} {oc_law_cell kV_law_cell dc_law_cell pm_law_cell cd_law_cell ct_law_cell : Value} (a_law_cell : PySem.W.nsIn K mainGlobals "_law_cell" = some (some (.ref f_law_cell))) (l_law_cell : K.lookup f_law_cell = some ⟨oc_law_cell, od_law_cell, .func (PySem.W.fnOf "_law_cell" "_law_cell" (defArgs s_law_cell) (defBody s_law_cell) (defScope s_law_cell) .none kV_law_cell dc_law_cell pm_law_cell an_law_cell cd_law_cell ct_law_cell), sl_law_cell⟩) (c_law_cell : PySem.W.codeIn K cd_law_cell "_law_cell" = true) (k_law_cell : PySem.W.keepIn K (.ref f_law_cell) = true)
    {f_law_whole : Addr} {od_law_whole an_law_whole : Option Addr} {sl_law_whole : Array (Option Value)} {oc_law_whole kV_law_whole dc_law_whole pm_law_whole cd_law_whole ct_law_whole : Value} (a_law_whole : PySem.W.nsIn K mainGlobals "_law_whole" = some (some (.ref f_law_whole))) (l_law_whole : K.lookup f_law_whole = some ⟨oc_law_whole, od_law_whole, .func (PySem.W.fnOf "_law_whole" "_law_whole" (defArgs s_law_whole) (defBody s_law_whole) (defScope s_law_whole) .none kV_law_whole dc_law_whole pm_law_whole an_law_whole cd_law_whole ct_law_whole), sl_law_whole⟩) (c_law_whole : PySem.W.codeIn K cd_law_whole "_law_whole" = true) (k_law_whole : PySem.W.keepIn K (.ref f_law_whole) = true)
    {f_law_signs : Addr} {od_law_signs an_law_signs : Option Addr} {sl_law_signs : Array (Option Value)} {oc_law_signs kV_law_signs dc_law_signs pm_law_signs cd_law_signs ct_law_signs : Value} (a_law_signs : PySem.W.nsIn K mainGlobals "_law_signs" = some (some (.ref f_law_signs))) (l_law_signs : K.lookup f_law_signs = some ⟨oc_law_signs, od_law_signs, .func (PySem.W.fnOf "_law_signs" "_law_signs" (defArgs s_law_signs) (defBody s_law_signs) (defScope s_law_signs) .none kV_law_signs dc_law_signs pm_law_signs an_law_signs cd_law_signs ct_law_signs), sl_law_signs⟩) (c_law_signs : PySem.W.codeIn K cd_law_signs "_law_signs" = true) (k_law_signs : PySem.W.keepIn K (.ref f_law_signs) = true)
    {f_law_row : Addr} {od_law_row an_law_row : Option Addr} {sl_law_row : Array (Option Value)} {oc_law_row kV_law_row dc_law_row pm_law_row cd_law_row ct_law_row : Value} (a_law_row : PySem.W.nsIn K mainGlobals "_law_row" = some (some (.ref f_law_row))) (l_law_row : K.lookup f_law_row = some ⟨oc_law_row, od_law_row, .func (PySem.W.fnOf "_law_row" "_law_row" (defArgs s_law_row) (defBody s_law_row) (defScope s_law_row) .none kV_law_row dc_law_row pm_law_row an_law_row cd_law_row ct_law_row), sl_law_row⟩) (c_law_row : PySem.W.codeIn K cd_law_row "_law_row" = true) (k_law_row : PySem.W.keepIn K (.ref f_law_row) = true)
    {f_law_texts : Addr} {od_law_texts an_law_texts : Option Addr} {sl_law_texts : Array (Option Value)} {oc_law_texts kV_law_texts dc_law_texts pm_law_texts cd_law_texts ct_law_texts : Value} (a_law_texts : PySem.W.nsIn K mainGlobals "_law_texts" = some (some (.ref f_law_texts))) (l_law_texts : K.lookup f_law_texts = some ⟨oc_law_texts, od_law_texts, .func (PySem.W.fnOf "_law_texts" "_law_texts" (defArgs s_law_texts) (defBody s_law_texts) (defScope s_law_texts) .none kV_law_texts dc_law_texts pm_law_texts an_law_texts cd_law_texts ct_law_texts), sl_law_texts⟩) (c_law_texts : PySem.W.codeIn K cd_law_texts "_law_texts" = true) (k_law_texts : PySem.W.keepIn K (.ref f_law_texts) = true)
    {f_law_picture : Addr} {od_law_picture an_law_picture : Option Addr} {sl_law_picture : Array (Option Value)} {oc_law_picture kV_law_picture dc_law_picture pm_law_picture cd_law_picture ct_law_picture : Value} (a_law_picture : PySem.W.nsIn K mainGlobals "_law_picture" = some (some (.ref f_law_picture))) (l_law_picture : K.lookup f_law_picture = some ⟨oc_law_picture, od_law_picture, .func (PySem.W.fnOf "_law_picture" "_law_picture" (defArgs s_law_picture) (defBody s_law_picture) (defScope s_law_picture) .none kV_law_picture dc_law_picture pm_law_picture an_law_picture cd_law_picture ct_law_picture), sl_law_picture⟩) (c_law_picture : PySem.W.codeIn K cd_law_picture "_law_picture" = true) (k_law_picture : PySem.W.keepIn K (.ref f_law_picture) = true)
    {f_law_windows : Addr} {od_law_windows an_law_windows : Option Addr} {sl_law_windows : Array (Option Value)} {oc_law_windows kV_law_windows dc_law_windows pm_law_windows cd_law_windows ct_law_windows : Value} (a_law_windows : PySem.W.nsIn K mainGlobals "_law_windows" = some (some (.ref f_law_windows))) (l_law_windows : K.lookup f_law_windows = some ⟨oc_law_windows, od_law_windows, .func (PySem.W.fnOf "_law_windows" "_law_windows" (defArgs s_law_windows) (defBody s_law_windows) (defScope s_law_windows) .none kV_law_windows dc_law_windows pm_law_windows an_law_windows cd_law_windows ct_law_windows), sl_law_windows⟩) (c_law_windows : PySem.W.codeIn K cd_law_windows "_law_windows" = true) (k_law_windows : PySem.W.keepIn K (.ref f_law_windows) = true)
    {f_law_cut : Addr} {od_law_cut an_law_cut : Option Addr} {sl_law_cut : Array (Option Value)} {oc_law_cut kV_law_cut dc_law_cut pm_law_cut cd_law_cut ct_law_cut : Value} (a_law_cut : PySem.W.nsIn K mainGlobals "_law_cut" = some (some (.ref f_law_cut))) (l_law_cut : K.lookup f_law_cut = some ⟨oc_law_cut, od_law_cut, .func (PySem.W.fnOf "_law_cut" "_law_cut" (defArgs s_law_cut) (defBody s_law_cut) (defScope s_law_cut) .none kV_law_cut dc_law_cut pm_law_cut an_law_cut cd_law_cut ct_law_cut), sl_law_cut⟩) (c_law_cut : PySem.W.codeIn K cd_law_cut "_law_cut" = true) (k_law_cut : PySem.W.keepIn K (.ref f_law_cut) = true)
    : Txt K mg := ⟨PySem.W.mg_none_of X G zb_all,
    PySem.W.mg_none_of X G zb_bool,
    PySem.W.mg_none_of X G zb_int,
    PySem.W.mg_none_of X G zb_isinstance,
    PySem.W.mg_none_of X G zb_len,
    PySem.W.mg_none_of X G zb_list,
    PySem.W.mg_none_of X G zb_range,
    PySem.W.mg_none_of X G zb_str,
    PySem.W.mg_none_of X G zb_tuple,
    df_of X G a_size_of l_size_of c_size_of k_size_of fun _ _ _ _ _ _ us hl => match us, hl with | [_], _ => rfl,
    df_of X G a_windows_of l_windows_of c_windows_of k_windows_of fun _ _ _ _ _ _ us hl => match us, hl with | [_, _], _ => rfl,
    df_of X G a_cut_out l_cut_out c_cut_out k_cut_out fun _ _ _ _ _ _ us hl => match us, hl with | [_, _], _ => rfl,
    df_of X G a_law_cell l_law_cell c_law_cell k_law_cell fun _ _ _ _ _ _ us hl => match us, hl with | [_, _], _ => rfl,
    df_of X G a_law_whole l_law_whole c_law_whole k_law_whole fun _ _ _ _ _ _ us hl => match us, hl with | [_], _ => rfl,
    df_of X G a_law_signs l_law_signs c_law_signs k_law_signs fun _ _ _ _ _ _ us hl => match us, hl with | [_, _], _ => rfl,
    df_of X G a_law_row l_law_row c_law_row k_law_row fun _ _ _ _ _ _ us hl => match us, hl with | [_, _, _], _ => rfl,
    df_of X G a_law_texts l_law_texts c_law_texts k_law_texts fun _ _ _ _ _ _ us hl => match us, hl with | [_, _], _ => rfl,
    df_of X G a_law_picture l_law_picture c_law_picture k_law_picture fun _ _ _ _ _ _ us hl => match us, hl with | [_, _, _, _, _], _ => rfl,
    df_of X G a_law_windows l_law_windows c_law_windows k_law_windows fun _ _ _ _ _ _ us hl => match us, hl with | [_, _, _], _ => rfl,
    df_of X G a_law_cut l_law_cut c_law_cut k_law_cut fun _ _ _ _ _ _ us hl => match us, hl with | [_, _], _ => rfl⟩
theorem all_mk {l : PySem.W.OpenLaw} {w : World} {K : PySem.W.Frag} {h : Heap} {mg : Str → Option Value} {fa : Addr} (X : K.In h) (G : h.Ns mainGlobals mg) (hfa : mg "law" = some (.ref fa))
    (zb_all : PySem.W.nsIn K mainGlobals "all" = some none)
    (zb_bool : PySem.W.nsIn K mainGlobals "bool" = some none)
    (zb_int : PySem.W.nsIn K mainGlobals "int" = some none)
    (zb_isinstance : PySem.W.nsIn K mainGlobals "isinstance" = some none)
    (zb_len : PySem.W.nsIn K mainGlobals "len" = some none)
    (zb_list : PySem.W.nsIn K mainGlobals "list" = some none)
    (zb_range : PySem.W.nsIn K mainGlobals "range" = some none)
    (zb_str : PySem.W.nsIn K mainGlobals "str" = some none)
    (zb_tuple : PySem.W.nsIn K mainGlobals "tuple" = some none)
    {f_size_of : Addr} {od_size_of an_size_of : Option Addr} {sl_size_of : Array (Option Value)} {oc_size_of kV_size_of dc_size_of pm_size_of cd_size_of ct_size_of : Value} (a_size_of : PySem.W.nsIn K mainGlobals "size_of" = some (some (.ref f_size_of))) (l_size_of : K.lookup f_size_of = some ⟨oc_size_of, od_size_of, .func (PySem.W.fnOf "size_of" "size_of" (defArgs s_size_of) (defBody s_size_of) (defScope s_size_of) .none kV_size_of dc_size_of pm_size_of an_size_of cd_size_of ct_size_of), sl_size_of⟩) (c_size_of : PySem.W.codeIn K cd_size_of "size_of" = true) (k_size_of : PySem.W.keepIn K (.ref f_size_of) = true)
    {f_windows_of : Addr} {od_windows_of an_windows_of : Option Addr} {sl_windows_of : Array (Option Value)} {oc_windows_of kV_windows_of dc_windows_of pm_windows_of cd_windows_of ct_windows_of : Value} (a_windows_of : PySem.W.nsIn K mainGlobals "windows_of" = some (some (.ref f_windows_of))) (l_windows_of : K.lookup f_windows_of = some ⟨oc_windows_of, od_windows_of, .func (PySem.W.fnOf "windows_of" "windows_of" (defArgs s_windows_of) (defBody s_windows_of) (defScope s_windows_of) .none kV_windows_of dc_windows_of pm_windows_of an_windows_of cd_windows_of ct_windows_of), sl_windows_of⟩) (c_windows_of : PySem.W.codeIn K cd_windows_of "windows_of" = true) (k_windows_of : PySem.W.keepIn K (.ref f_windows_of) = true)
    {f_cut_out : Addr} {od_cut_out an_cut_out : Option Addr} {sl_cut_out : Array (Option Value)} {oc_cut_out kV_cut_out dc_cut_out pm_cut_out cd_cut_out ct_cut_out : Value} (a_cut_out : PySem.W.nsIn K mainGlobals "cut_out" = some (some (.ref f_cut_out))) (l_cut_out : K.lookup f_cut_out = some ⟨oc_cut_out, od_cut_out, .func (PySem.W.fnOf "cut_out" "cut_out" (defArgs s_cut_out) (defBody s_cut_out) (defScope s_cut_out) .none kV_cut_out dc_cut_out pm_cut_out an_cut_out cd_cut_out ct_cut_out), sl_cut_out⟩) (c_cut_out : PySem.W.codeIn K cd_cut_out "cut_out" = true) (k_cut_out : PySem.W.keepIn K (.ref f_cut_out) = true)
    {f_law_cell : Addr} {od_law_cell an_law_cell : Option Addr} {sl_law_cell : Array (Option Value)} {oc_law_cell kV_law_cell dc_law_cell pm_law_cell cd_law_cell ct_law_cell : Value} (a_law_cell : PySem.W.nsIn K mainGlobals "_law_cell" = some (some (.ref f_law_cell))) (l_law_cell : K.lookup f_law_cell = some ⟨oc_law_cell, od_law_cell, .func (PySem.W.fnOf "_law_cell" "_law_cell" (defArgs s_law_cell) (defBody s_law_cell) (defScope s_law_cell) .none kV_law_cell dc_law_cell pm_law_cell an_law_cell cd_law_cell ct_law_cell), sl_law_cell⟩) (c_law_cell : PySem.W.codeIn K cd_law_cell "_law_cell" = true) (k_law_cell : PySem.W.keepIn K (.ref f_law_cell) = true)
    {f_law_whole : Addr} {od_law_whole an_law_whole : Option Addr} {sl_law_whole : Array (Option Value)} {oc_law_whole kV_law_whole dc_law_whole pm_law_whole cd_law_whole ct_law_whole : Value} (a_law_whole : PySem.W.nsIn K mainGlobals "_law_whole" = some (some (.ref f_law_whole))) (l_law_whole : K.lookup f_law_whole = some ⟨oc_law_whole, od_law_whole, .func (PySem.W.fnOf "_law_whole" "_law_whole" (defArgs s_law_whole) (defBody s_law_whole) (defScope s_law_whole) .none kV_law_whole dc_law_whole pm_law_whole an_law_whole cd_law_whole ct_law_whole), sl_law_whole⟩) (c_law_whole : PySem.W.codeIn K cd_law_whole "_law_whole" = true) (k_law_whole : PySem.W.keepIn K (.ref f_law_whole) = true)
    {f_law_signs : Addr} {od_law_signs an_law_signs : Option Addr} {sl_law_signs : Array (Option Value)} {oc_law_signs kV_law_signs dc_law_signs pm_law_signs cd_law_signs ct_law_signs : Value} (a_law_signs : PySem.W.nsIn K mainGlobals "_law_signs" = some (some (.ref f_law_signs))) (l_law_signs : K.lookup f_law_signs = some ⟨oc_law_signs, od_law_signs, .func (PySem.W.fnOf "_law_signs" "_law_signs" (defArgs s_law_signs) (defBody s_law_signs) (defScope s_law_signs) .none kV_law_signs dc_law_signs pm_law_signs an_law_signs cd_law_signs ct_law_signs), sl_law_signs⟩) (c_law_signs : PySem.W.codeIn K cd_law_signs "_law_signs" = true) (k_law_signs : PySem.W.keepIn K (.ref f_law_signs) = true)
    {f_law_row : Addr} {od_law_row an_law_row : Option Addr} {sl_law_row : Array (Option Value)} {oc_law_row kV_law_row dc_law_row pm_law_row cd_law_row ct_law_row : Value} (a_law_row : PySem.W.nsIn K mainGlobals "_law_row" = some (some (.ref f_law_row))) (l_law_row : K.lookup f_law_row = some ⟨oc_law_row, od_law_row, .func (PySem.W.fnOf "_law_row" "_law_row" (defArgs s_law_row) (defBody s_law_row) (defScope s_law_row) .none kV_law_row dc_law_row pm_law_row an_law_row cd_law_row ct_law_row), sl_law_row⟩) (c_law_row : PySem.W.codeIn K cd_law_row "_law_row" = true) (k_law_row : PySem.W.keepIn K (.ref f_law_row) = true)
    {f_law_texts : Addr} {od_law_texts an_law_texts : Option Addr} {sl_law_texts : Array (Option Value)} {oc_law_texts kV_law_texts dc_law_texts pm_law_texts cd_law_texts ct_law_texts : Value} (a_law_texts : PySem.W.nsIn K mainGlobals "_law_texts" = some (some (.ref f_law_texts))) (l_law_texts : K.lookup f_law_texts = some ⟨oc_law_texts, od_law_texts, .func (PySem.W.fnOf "_law_texts" "_law_texts" (defArgs s_law_texts) (defBody s_law_texts) (defScope s_law_texts) .none kV_law_texts dc_law_texts pm_law_texts an_law_texts cd_law_texts ct_law_texts), sl_law_texts⟩) (c_law_texts : PySem.W.codeIn K cd_law_texts "_law_texts" = true) (k_law_texts : PySem.W.keepIn K (.ref f_law_texts) = true)
    {f_law_picture : Addr} {od_law_picture an_law_picture : Option Addr} {sl_law_picture : Array (Option Value)} {oc_law_picture kV_law_picture dc_law_picture pm_law_picture cd_law_picture ct_law_picture : Value} (a_law_picture : PySem.W.nsIn K mainGlobals "_law_picture" = some (some (.ref f_law_picture))) (l_law_picture : K.lookup f_law_picture = some ⟨oc_law_picture, od_law_picture, .func (PySem.W.fnOf "_law_picture" "_law_picture" (defArgs s_law_picture) (defBody s_law_picture) (defScope s_law_picture) .none kV_law_picture dc_law_picture pm_law_picture an_law_picture cd_law_picture ct_law_picture), sl_law_picture⟩) (c_law_picture : PySem.W.codeIn K cd_law_picture "_law_picture" = true) (k_law_picture : PySem.W.keepIn K (.ref f_law_picture) = true)
    {f_law_windows : Addr} {od_law_windows an_law_windows : Option Addr} {sl_law_windows : Array (Option Value)} {oc_law_windows kV_law_windows dc_law_windows pm_law_windows cd_law_windows ct_law_windows : Value} (a_law_windows : PySem.W.nsIn K mainGlobals "_law_windows" = some (some (.ref f_law_windows))) (l_law_windows : K.lookup f_law_windows = some ⟨oc_law_windows, od_law_windows, .func (PySem.W.fnOf "_law_windows" "_law_windows" (defArgs s_law_windows) (defBody s_law_windows) (defScope s_law_windows) .none kV_law_windows dc_law_windows pm_law_windows an_law_windows cd_law_windows ct_law_windows), sl_law_windows⟩) (c_law_windows : PySem.W.codeIn K cd_law_windows "_law_windows" = true) (k_law_windows : PySem.W.keepIn K (.ref f_law_windows) = true)
    {f_law_cut : Addr} {od_law_cut an_law_cut : Option Addr} {sl_law_cut : Array (Option Value)} {oc_law_cut kV_law_cut dc_law_cut pm_law_cut cd_law_cut ct_law_cut : Value} (a_law_cut : PySem.W.nsIn K mainGlobals "_law_cut" = some (some (.ref f_law_cut))) (l_law_cut : K.lookup f_law_cut = some ⟨oc_law_cut, od_law_cut, .func (PySem.W.fnOf "_law_cut" "_law_cut" (defArgs s_law_cut) (defBody s_law_cut) (defScope s_law_cut) .none kV_law_cut dc_law_cut pm_law_cut an_law_cut cd_law_cut ct_law_cut), sl_law_cut⟩) (c_law_cut : PySem.W.codeIn K cd_law_cut "_law_cut" = true) (k_law_cut : PySem.W.keepIn K (.ref f_law_cut) = true)
    {f_law : Addr} {od_law an_law : Option Addr} {sl_law : Array (Option Value)} {oc_law kV_law dc_law pm_law cd_law ct_law : Value} (a_law : PySem.W.nsIn K mainGlobals "law" = some (some (.ref f_law))) (l_law : K.lookup f_law = some ⟨oc_law, od_law, .func (PySem.W.fnOf "law" "law" (defArgs s_law) (defBody s_law) (defScope s_law) .none kV_law dc_law pm_law an_law cd_law ct_law), sl_law⟩) (c_law : PySem.W.codeIn K cd_law "law" = true) (k_law : PySem.W.keepIn K (.ref f_law) = true) :
    ∃ fd : FuncData, (∀ (s : Shared) (v : Value), BindsTo s fd ⟨[v], []⟩ [("_law_script", v)]) ∧ ∀ base : Heap, K.In base → base.Ns mainGlobals mg → FnOk l.prog w K mg base (L2.CX l.prog w) 21 fa fd ["_law_script"] (spOf K lawS) := by
  have e := hfa.symm.trans (PySem.W.mg_of X G a_law)
  cases e
  have T : Txt K mg := txt_mk X G zb_all zb_bool zb_int zb_isinstance zb_len zb_list zb_range zb_str zb_tuple a_size_of l_size_of c_size_of k_size_of a_windows_of l_windows_of c_windows_of k_windows_of a_cut_out l_cut_out c_cut_out k_cut_out a_law_cell l_law_cell c_law_cell k_law_cell a_law_whole l_law_whole c_law_whole k_law_whole a_law_signs l_law_signs c_law_signs k_law_signs a_law_row l_law_row c_law_row k_law_row a_law_texts l_law_texts c_law_texts k_law_texts a_law_picture l_law_picture c_law_picture k_law_picture a_law_windows l_law_windows c_law_windows k_law_windows a_law_cut l_law_cut c_law_cut k_law_cut
  exact ⟨PySem.W.fnOf "law" "law" (defArgs s_law) (defBody s_law) (defScope s_law) .none kV_law dc_law pm_law an_law cd_law ct_law, fun s v => .of_eq rfl, fun base _ _ => law_fn (fun_mk l_law c_law k_law) sc_law (body_law T)⟩
end Law
open PySem PySem.W PyProof.Rows
set_option maxRecDepth 100000 in
set_option maxHeartbeats 0 in
theorem PySem.Challenge.cw_quiltlaw_k03_windows_cut_out_holds : PySem.Challenge.rw_quiltlaw_k03_windows_cut_out.Holds := by
  w_on; o_law; k_head; (case hw => w_witness2)
  k_fill
  refine L2.walk_of (l := PySem.Challenge.rw_quiltlaw_k03_windows_cut_out) (n := 63) (k := 21) (x := "_law_script") (CX := fun w => L2.CX PySem.Challenge.rw_quiltlaw_k03_windows_cut_out.prog w) (sp := fun w => Tw.spOf _ Tw.lawS) rfl (by decide) rfl ⟨rfl, by decide, by decide⟩ (fun w h Y => PySem.W.kIn_of Y) ?F (fun _ H a ns hl _ hS => Tw.law_sp _ H a ns hl hS) (fun w H s e s' => Tw.hCX0 _ w H s e s')
  case F =>
    intro w mg fa h KX G hmg
    refine' Law.all_mk KX G hmg ?zb_all ?zb_bool ?zb_int ?zb_isinstance ?zb_len ?zb_list ?zb_range ?zb_str ?zb_tuple ?a_size_of ?l_size_of ?c_size_of ?k_size_of ?a_windows_of ?l_windows_of ?c_windows_of ?k_windows_of ?a_cut_out ?l_cut_out ?c_cut_out ?k_cut_out ?a_law_cell ?l_law_cell ?c_law_cell ?k_law_cell ?a_law_whole ?l_law_whole ?c_law_whole ?k_law_whole ?a_law_signs ?l_law_signs ?c_law_signs ?k_law_signs ?a_law_row ?l_law_row ?c_law_row ?k_law_row ?a_law_texts ?l_law_texts ?c_law_texts ?k_law_texts ?a_law_picture ?l_law_picture ?c_law_picture ?k_law_picture ?a_law_windows ?l_law_windows ?c_law_windows ?k_law_windows ?a_law_cut ?l_law_cut ?c_law_cut ?k_law_cut ?a_law ?l_law ?c_law ?k_law
    (case zb_all => k_is)
    (case zb_bool => k_is)
    (case zb_int => k_is)
    (case zb_isinstance => k_is)
    (case zb_len => k_is)
    (case zb_list => k_is)
    (case zb_range => k_is)
    (case zb_str => k_is)
    (case zb_tuple => k_is)
    (case a_size_of => k_is)
    (case l_size_of => k_is)
    (case c_size_of => k_is)
    (case k_size_of => k_is)
    (case a_windows_of => k_is)
    (case l_windows_of => k_is)
    (case c_windows_of => k_is)
    (case k_windows_of => k_is)
    (case a_cut_out => k_is)
    (case l_cut_out => k_is)
    (case c_cut_out => k_is)
    (case k_cut_out => k_is)
    (case a_law_cell => k_is)
    (case l_law_cell => k_is)
    (case c_law_cell => k_is)
    (case k_law_cell => k_is)
    (case a_law_whole => k_is)
    (case l_law_whole => k_is)
    (case c_law_whole => k_is)
    (case k_law_whole => k_is)
    (case a_law_signs => k_is)
    (case l_law_signs => k_is)
    (case c_law_signs => k_is)
    (case k_law_signs => k_is)
    (case a_law_row => k_is)
    (case l_law_row => k_is)
    (case c_law_row => k_is)
    (case k_law_row => k_is)
    (case a_law_texts => k_is)
    (case l_law_texts => k_is)
    (case c_law_texts => k_is)
    (case k_law_texts => k_is)
    (case a_law_picture => k_is)
    (case l_law_picture => k_is)
    (case c_law_picture => k_is)
    (case k_law_picture => k_is)
    (case a_law_windows => k_is)
    (case l_law_windows => k_is)
    (case c_law_windows => k_is)
    (case k_law_windows => k_is)
    (case a_law_cut => k_is)
    (case l_law_cut => k_is)
    (case c_law_cut => k_is)
    (case k_law_cut => k_is)
    (case a_law => k_is)
    (case l_law => k_is)
    (case c_law => k_is)
    (case k_law => k_is)
