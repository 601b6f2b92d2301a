import PyProof.Rows.All
import Wide.All
import OpenK.AllK
import Wide.FinOn
import HandS.ForMost
import HandS.ForExc
import HandS.Wide
import HandS.EndBits
import HandS.IsInst
import HandS.ExcInit
import HandS.ExcIs
import HandS.RevTup
import HandS.MapObj
import HandS.MapJoin
import HandS.Rev
import HandS.DictComp
import HandS.Strs
import HandS.TupSets
import HandS.Zip
import HandS.RevRange
import HandS.SortKw
import HandS.TryOnly
import HandS.Style
import PyProof.ListNew
import HandS.Deep
import PyProof.MinMaxWalk
import PyProof.WalkInts
import PyProof.Rows.CallKwBuiltin
import PyProof.Rows.CallKw2
import KE.KMinBuiltin
import PyProof.Draws
import PyProof.EnumMake
import KE.GoesMore
import KE.GoesEnum
import HandS.TupAny
import PyProof.AutoSeq1
import HandS.More
import KE.KEqDict
import HandS.SortInts
import HandS.Dict
import KE.KDictSum
import HandS.DictTup
import KE.KDictWalk
import KE.KDictCopyH
import HandS.Iter
import HandS.Exc
import HandS.Sort
import KE.SortKeyHeap
import PyProof.Rows.StrMul
import HandS.SetKeys
import HandS.Finally
import HandS.Defaults
import HandS.CallSlots
import PyProof.Rows.SortShellAny
import KE.SortData
import HandS.Conv
import HandS.Comp
import KE.GoesComp
import KE.GoesRaise
import KE.KAsSuite
import HandS.Exc
import HandS.SuiteRaise
import HandS.HotCalls
import HandS.ExcInitHot
import HandS.RaiseFrom
import HandS.ExcCtx
import KE.OsRunLaw
import KE.KNestM
import PySem.Challenge.RW_quiltlaw_k13_grammar_read
set_option Elab.async false
set_option linter.all false
set_option genSizeOf false
set_option genInjectivity false
set_option maxRecDepth 100000
set_option maxHeartbeats 4000000
namespace RevS
open PySem PySem.Spec PyProof.Rows RT MpR
noncomputable def IsRs (h : Heap) (a : Addr) (x : Str) (t : Tok) (i : Int) : Prop := ∃ o, h.get? a = some o ∧ o.cls = .type "reversed" ∧ o.data = .fields #[.str x t, rawInt i]
theorem IsRs.at {h h' : Heap} {a : Addr} {x : Str} {t : Tok} {i : Int} (q : IsRs h a x t i) (e : ∀ o, h.get? a = some o → h'.get? a = some o) : IsRs h' a x t i := let ⟨o, ho, r⟩ := q; ⟨o, e _ ho, r⟩
end RevS
namespace L2
open PySem PySem.Spec PyProof.Rows
end L2
namespace SetS
open PySem PySem.Spec PyProof.Rows
noncomputable def cnt (xs : List Str) : Nat → Nat
  | 0 => 0
  | i + 1 => if (xs.take i).any (· == xs.getD i Str.empty) = true then cnt xs i else cnt xs i + 1
theorem cnt_le (xs : List Str) : ∀ i, cnt xs i ≤ i
  | 0 => Nat.le_refl _
  | i + 1 => by
    have := cnt_le xs i
    unfold cnt
    split <;> omega
noncomputable abbrev nude (b : Bool) : Obj := ⟨.type "set", none, .set #[] 0 (.fresh 0 0 b), #[]⟩
section
variable {prog : Program} {w : World} {A : Around} {E : Value → Shared → Prop}
noncomputable def Told (g : Program) (w : World) (a : Addr) (xs : List Str) (i : Nat) (h : Heap) : Prop := h.SetOf (strKind g w) a (fun z => (xs.take i).any (· == z)) (cnt xs i)
theorem Told.keep {a : Addr} {xs : List Str} {i : Nat} {h h' : Heap} (T : Told prog w a xs i h) (k : ∀ o, h.get? a = some o → h'.get? a = some o) : Told prog w a xs i h' := by
  obtain ⟨o, es, ep, tb, at', more⟩ := T
  exact ⟨o, es, ep, tb, k o at', more⟩
theorem told_next {a : Addr} {xs : List Str} {i : Nat} {h : Heap} (hi : i < xs.length)
    (T : h.SetOf (strKind prog w) a (fun z => (xs.take i).any (· == z) || decide (z = xs.getD i Str.empty)) (if (xs.take i).any (· == xs.getD i Str.empty) = true then cnt xs i else cnt xs i + 1)) : Told prog w a xs (i + 1) h := by
  refine SetOf_congr T (fun z => ?_) rfl
  have e : xs.take (i + 1) = xs.take i ++ [xs.getD i Str.empty] := by
    rw [List.take_succ, List.getElem?_eq_getElem hi, List.getD_eq_getElem?_getD, List.getElem?_eq_getElem hi]
    rfl
  rw [e, List.any_append]
  congr 1
  by_cases q : z = xs.getD i Str.empty
  · rw [decide_eq_true q, q]; simp
  · rw [decide_eq_false q]
    have : (xs.getD i Str.empty == z) = false := beq_eq_false_iff_ne.mpr fun z' => q z'.symm
    rw [List.any_cons, this]
    rfl
theorem add_str {a : Addr} {xs : List Str} {i : Nat} {u : Tok} {s : Shared} {Q : Bool → Shared → Prop} (hi : i < xs.length) (room : i + 1 < scanBound) (T : Told prog w a xs i s.heap)
    (q : ∀ h' b, Heap.SameBut a s.heap h' → Told prog w a xs (i + 1) h' → Q b ⟨h', s.gens, s.drawn, s.toks + 1, s.os⟩) : wpAny (model prog w) A (setAdd a (.str (xs.getD i Str.empty) u)) Q E s := by
  have fits := Nat.lt_of_le_of_lt (Nat.succ_le_succ (cnt_le xs i)) room
  unfold setAdd
  refine wpAny_holding (wpAny_bind ((strKind prog w).pyHash (strKind_is _ _ _ u) ?_))
  exact wpAny_setAddHashed_of (s := { s with toks := s.toks + 1 }) (strKind_is _ _ _ _) rfl T fits fun h' same T2 => q h' _ same (told_next hi T2)
theorem fill {R : Result → Shared → Prop} {it a : Addr} {fp wr : List Addr} {G : Array GenState → Array GenState → Prop} {P : Nat → Value → Prop} {St : Nat → Shared → Prop} (xs : List Str)
    (W : WalksS prog w A.in1 it fp wr G xs.length P St) (ha : a ∉ fp) (room : xs.length < scanBound) (each : ∀ i v, P i v → ∃ u, v = .str (xs.getD i Str.empty) u) :
    ∀ (j i : Nat) (s : Shared), i + j = xs.length → St i s → Told prog w a xs i s.heap → (∀ z, Moved (a :: wr) G s z → Told prog w a xs xs.length z.heap → R (.ok (.ret .none)) z) →
      codeAny (model prog w) A (.builtin "set.update.loop" ⟨[.ref a, .ref it], []⟩) R s := by
  have out : a ∉ wr := fun z => ha (W.sub a z)
  have more : ∀ {s z : Shared}, Moved wr G s z → Moved (a :: wr) G s z := fun m => m.mono fun b hb => .tail _ hb
  intro j
  induction j with
  | zero =>
    intro i s e st T fin
    obtain rfl : i = xs.length := by omega
    refine codeAny_builtin F.entry_set_update_loop ?_
    rw [Around.under_plainId F.plain_set_update_loop _]
    refine wpAny_bind (f := fun x => _) (W.done s _ _ st fun z m => ?_)
    exact wpAny_pure (M := model prog w) (A := A.in1) (fin z (more m) (T.keep fun o h => m.heap a o out h))
  | succ j ih =>
    intro i s e st T fin
    have lt : i < xs.length := by omega
    refine codeAny_builtin F.entry_set_update_loop ?_
    rw [Around.under_plainId F.plain_set_update_loop _]
    refine wpAny_bind (f := fun x => _) (W.item i s _ _ lt st fun v z hv st' m => ?_)
    obtain ⟨u, rfl⟩ := each i v hv
    refine wpAny_bind (f := fun x => _) (wpAny_holding (add_str lt (by omega) (T.keep fun o h => m.heap a o out h) fun h' b same T' => ?_))
    refine wpAny_pure (M := model prog w) (A := A.in1) ⟨plainId_quiet F.plain_set_update_loop _, ih (i + 1) _ (by omega) (W.frame _ z _ _ st' (Nat.le_succ _) fun b hb o h => (same.2 b fun q => ha (q ▸ hb)).trans h) T' fun z' m' T2 => fin z' ?_ T2⟩
    exact ((more m).then_heap (Nat.le_succ _) fun b o hb h => (same.2 b fun q => hb (q ▸ List.mem_cons_self ..)).trans h).trans W.gtrans m'
end
section
variable {prog : Program} {w : World} {A : Around} {E : Value → Shared → Prop} {s : Shared}
set_option maxHeartbeats 3200000 in
theorem make {x : Str} {t : Tok} {Q : Value → Shared → Prop} (led0 : A.handled = none) (room : x.length < scanBound)
    (q : ∀ (h' : Heap) (tk : Nat), Told prog w s.heap.objs.size (signs x) (signs x).length h' → (∀ b o, s.heap.get? b = some o → h'.get? b = some o) → Q (.ref s.heap.objs.size) { s with heap := h', toks := tk }) :
    wpAny (model prog w) A (call (.type "set") [.str x t]) Q E s := by
  obtain ⟨c0, rest, mro⟩ := PySem.F.called_set.mro
  have c1 := PySem.F.called_set.made
  have c2 := PySem.F.called_set.sub
  have c3 := PySem.F.called_set.notType
  have c4 := PySem.F.called_set.canCreate
  have c5 := PySem.F.typeCall_set_1 (.str x t)
  refine wpAny_call (codeAny_of_tree ?_)
  show wpAny _ _ (callAny (.type "set") _) _ _ _
  refine wpAny_pure ⟨Code.quiet_builtin _ (by decide +kernel), codeAny_builtin PySem.F.entry_type_call ?_⟩
  rw [Around.under_plain (weight_type_call_type "set" [.str x t] []) rfl]
  repeat (any_goals (first | assumption | wp_step))
  refine codeAny_mono (code_set_new_1 (.str x t) (E := E) (Q₁ := fun v z => ∃ b, v = .ref s.heap.objs.size ∧ z = { s with heap := s.heap.push (nude b) }) fun b => ⟨b, rfl, rfl⟩) fun r z hr => ?_
  cases r with
  | error e => exact hr
  | ok fl =>
    cases fl with
    | ret v =>
      obtain ⟨b, rfl, rfl⟩ := hr
      have here : (s.heap.push (nude b)).get? s.heap.objs.size = some (nude b) := Heap.get?_push_size _ rfl
      have kind : Shared.TypeIs { s with heap := s.heap.push (nude b) } (.ref s.heap.objs.size) "set" := ⟨_, here, rfl⟩
      have c6 := PySem.F.called_set.init.lookup
      have c7 := PySem.F.called_set.init.bind (.ref s.heap.objs.size)
      repeat (any_goals (first | assumption | wp_step))
      refine codeAny_mono (codeAny_call_builtin (R := wants (fun r z => r = .none ∧ ∃ h' tk, z = { s with heap := h', toks := tk } ∧ Told prog w s.heap.objs.size (signs x) (signs x).length h' ∧ (∀ b o, s.heap.get? b = some o → h'.get? b = some o)) E)
        PySem.F.called_set.init.plain PySem.F.entry_set_init (check_set_init_1 kind ?_)) fun r z hr => ?_
      · have n1 := PySem.F.sub_str_set
        have n2 := PySem.F.sub_str_frozenset
        have n3 : (Value.type "str" == Value.type "dict") = false := by decide
        unfold Builtin.«set.__init__» noKeywords Builtin.Frozenset.updateFrom
        generalize hI : pyIter = I
        wp_walk
        subst hI
        refine wpAny_pyIter_str fun o St W st => ?_
        refine wpAny_bind (wpAny_runValue ?_)
        have led3 : A.in1.in1.in1.handled = none := by simp [led0]
        have here2 := Heap.get?_push_of_some o here
        have ln : (signs x).length = x.cps.size := signs_length x
        have sz : (s.heap.push (nude b)).objs.size = s.heap.objs.size + 1 := Heap.size_push ..
        have apart : s.heap.objs.size ∉ [(s.heap.push (nude b)).objs.size] := fun hb => by
          have hb := List.mem_singleton.mp hb
          rw [sz] at hb
          omega
        have each : ∀ i v, SignAt x i v → ∃ u, v = .str ((signs x).getD i Str.empty) u := fun i v ⟨c, u, hc, ev⟩ => ⟨u, by rw [ev, List.getD_eq_getElem?_getD, signs_get hc]; rfl⟩
        have none' : Told prog w s.heap.objs.size (signs x) 0 ((s.heap.push (nude b)).push o) := SetOf_congr ((setObjOf_fresh (knd := strKind prog w) b).setOf here2 (by unfold scanBound; omega)) (fun _ => rfl) rfl
        refine fill (signs x) (ln ▸ (W _ led3).toS) apart (by rw [ln]; exact room) each _ 0 _ (Nat.zero_add _) st none' fun z m T => ?_
        obtain ⟨h', g', d', tk', os'⟩ := z
        obtain rfl : g' = s.gens := m.gens
        obtain rfl : d' = s.drawn := m.drawn
        obtain rfl : os' = s.os := m.os
        refine wpAny_pure (M := model prog w) ?_
        refine wpAny_pure (M := model prog w) ⟨rfl, h', tk', rfl, T, fun b' o' e => m.heap b' o' ?_ (Heap.get?_push_of_some _ (Heap.get?_push_of_some _ e))⟩
        have lt := Heap.lt_size e
        rw [sz]
        simp only [List.mem_cons, List.not_mem_nil, or_false, not_or]
        exact ⟨Nat.ne_of_lt lt, Nat.ne_of_lt (Nat.lt_succ_of_lt lt)⟩
      · cases r with
        | error e => exact hr
        | ok fl =>
          cases fl with
          | ret v =>
            obtain ⟨rfl, h', tk, rfl, T, keep⟩ := hr
            repeat (any_goals (first | assumption | wp_step))
            exact q _ _ T keep
          | _ => exact hr.elim
    | _ => exact hr.elim
end
end SetS
namespace L2
open PySem PySem.Spec PyProof.Rows
noncomputable def tLenSetS (ta : TE) : TE := fun σ H Q => ta σ H fun v H1 => ∃ x : Str, v = .str x ∧ x.length < scanBound ∧ Q (.int (SetS.cnt (signs x) (signs x).length : Nat)) H1
section
variable {X : Cx}
theorem pe_lenSetS {a : Expr} {ta : TE} {p p2 q pos : Pos} (calm : X.calm = true) (g1 : Gl X "len") (m1 : X.mg "len" = none) (g2 : Gl X "set") (m2 : X.mg "set" = none) (ha : PE X a ta)
    (st : starEach [a] X.env = (false, eval a X.env) :: starEach [] X.env := by rfl) : PE X (.Call (.Name "len" p) [.Call (.Name "set" p2) [a] [] q] [] pos) (tLenSetS ta) := by
  refine ⟨fun pins s σ H Q I h => Call_ (ld_blt I g1 m1 boot_len (callWith_builtin1 (args_cons ?_ rfl) rfl rfl))⟩
  refine Call_ (ld_blt I g2 m2 boot_set (callWith_type1 (args_cons (thn (ha.run pins s σ H _ I h) fun v z ⟨y, H1, I1, r1, x, ex, room, q1⟩ => args_nil ?_) st) st rfl))
  subst ex
  obtain ⟨t, rfl⟩ := r1
  refine SetS.make (I1.ok.hd calm) room fun h' tk T keep => args_nil ?_
  obtain ⟨o, es, ep, tb, at', exact', data, _, _, _, fit, many⟩ := T
  have small : SetS.cnt (signs x) (signs x).length < scanBound := Nat.lt_of_le_of_lt (SetS.cnt_le _ _) (by rw [signs_length]; exact room)
  have I2 : Inv X pins σ H1 { z with heap := h', toks := tk } := I1.kept keep
  exact call_len_set at' exact' data fit (by rw [many]; unfold scanBound at small; omega) ⟨.int (SetS.cnt (signs x) (signs x).length : Nat), H1, I2.tok _, ⟨_, by rw [many]⟩, q1⟩
end
end L2
namespace Tw
def aRfl : Lean.Syntax := .node .none `Lean.Parser.Tactic.tacticSeq #[.node .none `Lean.Parser.Tactic.tacticSeq1Indented #[.node .none `null #[.node .none `Lean.Parser.Tactic.tacticRfl #[.atom .none "rfl"]]]]
open PySem PySem.Spec PyProof.Rows L2 TL
class Rep (α : Type) where
  rp : PySem.W.Frag → Hp → V → α → Prop
  mono : ∀ {K : PySem.W.Frag} {F F' : Hp} {v : V} {x : α}, Same F F' → rp K F v x → rp K F' v x
noncomputable abbrev rp {α : Type} {i : Rep α} (K : PySem.W.Frag) (F : Hp) (v : V) (x : α) : Prop := i.rp K F v x
noncomputable abbrev Tx := List Nat
noncomputable def sx (x : Tx) : Str := ⟨x.toArray⟩
theorem tl_sx (x : Tx) : tl (sx x) = x := rfl
theorem sx_tl (x : Str) : sx (tl x) = x := mk_tl x
theorem sx_inj {x y : Tx} (h : sx x = sx y) : x = y := by have := congrArg tl h; simpa [tl_sx] using this
theorem sx_len (x : Tx) : (sx x).length = x.length := by rw [len_tl]; rfl
theorem sx_app (x y : Tx) : sx x ++ sx y = sx (x ++ y) := ext_tl (by rw [tl_append]; rfl)
noncomputable instance repInt : Rep Int := ⟨fun _ _ v x => v = .int x, fun _ h => h⟩
noncomputable instance repBool : Rep Bool := ⟨fun _ _ v x => v = .bl x, fun _ h => h⟩
noncomputable instance repUnit : Rep Unit := ⟨fun _ _ v _ => v = .non, fun _ h => h⟩
noncomputable instance repTx : Rep (List Nat) := ⟨fun _ _ v x => v = .str (sx x), fun _ h => h⟩
noncomputable instance repList {α : Type} [i : Rep α] : Rep (List α) := ⟨fun K H v xs => ∃ a vs, v = .ref a ∧ H a = some (.lst vs) ∧ Paired (fun u x => i.rp K H u x) vs xs,
  fun s ⟨a, vs, e, h, p⟩ => ⟨a, vs, e, s _ _ h, Paired.mapP p fun _ _ q => i.mono s q⟩⟩
set_option genInjectivity true in
structure Tup (α : Type) where
  l : List α
noncomputable instance repTup {α : Type} [i : Rep α] : Rep (Tup α) := ⟨fun K H v xs => ∃ a vs, v = .ref a ∧ H a = some (.tup vs) ∧ Paired (fun u x => i.rp K H u x) vs xs.l,
  fun s ⟨a, vs, e, h, p⟩ => ⟨a, vs, e, s _ _ h, Paired.mapP p fun _ _ q => i.mono s q⟩⟩
noncomputable instance repPair {α β : Type} [i : Rep α] [j : Rep β] : Rep (α × β) := ⟨fun K H v x => ∃ a u w, v = .ref a ∧ H a = some (.tup [u, w]) ∧ i.rp K H u x.1 ∧ j.rp K H w x.2,
  fun s ⟨a, u, w, e, h, p, q⟩ => ⟨a, u, w, e, s _ _ h, i.mono s p, j.mono s q⟩⟩
noncomputable instance repOpt {α : Type} [i : Rep α] : Rep (Option α) := ⟨fun K H v x => match x with | none => v = .non | some y => i.rp K H v y,
  fun {K F F' v x} s h => by cases x with | none => exact h | some y => exact i.mono s h⟩
structure Scr where
  l : List Int
noncomputable instance repScr : Rep Scr := ⟨fun K H v x => ∃ a, v = .ref a ∧ SqL K H a (x.l.map V.int), fun s ⟨a, e, h⟩ => ⟨a, e, s.seq h⟩⟩
noncomputable abbrev Rps {α : Type} [i : Rep α] (K : PySem.W.Frag) (F : Hp) (vs : List V) (xs : List α) : Prop := Paired (fun u x => i.rp K F u x) vs xs
section
variable {α β : Type} [i : Rep α] [j : Rep β] {K : PySem.W.Frag} {F F' : Hp} {vs : List V} {xs : List α}
theorem Rps.mono (s : Same F F') (h : Rps K F vs xs) : Rps K F' vs xs := Paired.mapP h fun _ _ q => i.mono s q
theorem Rps.len (h : Rps K F vs xs) : vs.length = xs.length := Paired.length h
theorem pgetL {A B : Type} {G : A → B → Prop} : ∀ {l : List A} {m : List B} {k : Nat} {b : B}, Paired G l m → m[k]? = some b → ∃ a, l[k]? = some a ∧ G a b
  | _, _, 0, _, .cons r _, e => by simp at e; subst e; exact ⟨_, rfl, r⟩
  | _, _, k + 1, b, .cons _ t, e => by
    obtain ⟨a, h1, h2⟩ := pgetL (k := k) (b := b) t (by simpa using e)
    exact ⟨a, by simpa using h1, h2⟩
theorem ptake {A B : Type} {G : A → B → Prop} : ∀ {l : List A} {m : List B} (n : Nat), Paired G l m → Paired G (l.take n) (m.take n)
  | _, _, 0, _ => .nil
  | _, _, _ + 1, .nil => .nil
  | _, _, n + 1, .cons r t => .cons r (ptake n t)
theorem pdrop {A B : Type} {G : A → B → Prop} : ∀ {l : List A} {m : List B} (n : Nat), Paired G l m → Paired G (l.drop n) (m.drop n)
  | _, _, 0, r => r
  | _, _, _ + 1, .nil => .nil
  | _, _, n + 1, .cons _ t => pdrop n t
theorem papp {A B : Type} {G : A → B → Prop} : ∀ {l l' : List A} {m m' : List B}, Paired G l m → Paired G l' m' → Paired G (l ++ l') (m ++ m')
  | _, _, _, _, .nil, s => s
  | _, _, _, _, .cons r t, s => .cons r (papp t s)
theorem Rps.ints {ns : List Int} : ∀ {vs : List V}, Paired (fun u x => repInt.rp K F u x) vs ns → vs = ns.map V.int := by
  induction ns with
  | nil => intro vs h; cases h; rfl
  | cons n ns ih =>
    intro vs h
    cases h with
    | cons r t =>
      obtain rfl : _ = V.int n := r
      rw [ih t]
      rfl
theorem Rps.bls {ns : List Bool} : ∀ {vs : List V}, Paired (fun u x => repBool.rp K F u x) vs ns → vs = ns.map V.bl := by
  induction ns with
  | nil => intro vs h; cases h; rfl
  | cons n ns ih =>
    intro vs h
    cases h with
    | cons r t =>
      obtain rfl : _ = V.bl n := r
      rw [ih t]
      rfl
theorem Rps.strs {ns : List Tx} : ∀ {vs : List V}, Paired (fun u x => repTx.rp K F u x) vs ns → vs = (ns.map sx).map V.str := by
  induction ns with
  | nil => intro vs h; cases h; rfl
  | cons n ns ih =>
    intro vs h
    cases h with
    | cons r t =>
      obtain rfl : _ = V.str (sx n) := r
      rw [ih t]
      rfl
theorem Rps.of_strs : ∀ (ns : List Tx), Rps K F ((ns.map sx).map V.str) ns
  | [] => .nil
  | n :: ns => .cons rfl (Rps.of_strs ns)
end
structure ExtM (M : Addr → Prop) (F H F' H' : Hp) : Prop where
  ff : Same F F'
  fh : Same F' H'
  hh : ∀ b o, ¬ M b → H b = some o → H' b = some o
  nwM : ∀ a, ¬ M a → F a = none → H a ≠ none → F' a = none
  th : ∀ a, M a → H a ≠ none → H' a ≠ none
noncomputable abbrev M0 : Addr → Prop := fun _ => False
noncomputable abbrev Ext := ExtM M0
theorem Ext.hs {F H F' H' : Hp} (e : Ext F H F' H') : Same H H' := fun b o h => e.hh b o (fun z => z) h
theorem Ext.refl {F H : Hp} (h : Same F H) : Ext F H F H := ⟨Same.refl F, h, fun _ _ _ h => h, fun _ _ h _ => h, fun _ z => z.elim⟩
theorem ExtM.nw {F H F' H' : Hp} (e : Ext F H F' H') (a : Addr) (h1 : F a = none) (h2 : H a ≠ none) : F' a = none := e.nwM a (fun z => z) h1 h2
theorem ExtM.trans {M : Addr → Prop} {F H F1 H1 F2 H2 : Hp} (a : ExtM M F H F1 H1) (b : Ext F1 H1 F2 H2) : ExtM M F H F2 H2 :=
  have keep : ∀ x, H1 x ≠ none → H2 x ≠ none := fun x h z => by
    cases q : H1 x with
    | none => exact h q
    | some o => rw [b.hs _ _ q] at z; cases z
  ⟨a.ff.trans b.ff, b.fh, fun x o hx h => b.hs _ _ (a.hh x o hx h), fun x hx h1 h2 => b.nw x (a.nwM x hx h1 h2) (by
    intro z
    cases q : H x with
    | none => exact h2 q
    | some o => rw [a.hh x o hx q] at z; cases z), fun x hx h => keep x (a.th x hx h)⟩
theorem Ext.trans {F H F1 H1 F2 H2 : Hp} (a : Ext F H F1 H1) (b : Ext F1 H1 F2 H2) : Ext F H F2 H2 := ExtM.trans a b
theorem Ext.new {F H : Hp} (h : Same F H) {p : Addr} {o : HO} (hp : H p = none) : Ext F H (upd F p o) (upd H p o) := by
  have fp : F p = none := h.free hp
  refine ⟨fun b u e => ?_, fun b u e => ?_, fun b u _ e => ?_, fun b _ e ne => ?_, fun _ z => z.elim⟩
  · rw [upd_ne (ne_of_none e fp)]; exact e
  · by_cases hb : b = p
    · subst hb; rw [upd_same] at e ⊢; exact e
    · rw [upd_ne hb] at e ⊢; exact h _ _ e
  · rw [upd_ne (ne_of_none e hp)]; exact e
  · rw [upd_ne (fun z => by subst z; exact ne hp)]; exact e
theorem Ext.apart {F H : Hp} (h : Same F H) {p : Addr} {o : HO} (hp : H p = none) : Ext F H F (upd H p o) :=
  ⟨Same.refl F, fun b u e => by rw [upd_ne (ne_of_none (h _ _ e) hp)]; exact h _ _ e, fun b u _ e => by rw [upd_ne (ne_of_none e hp)]; exact e, fun _ _ e _ => e, fun _ z => z.elim⟩
theorem same_upd {F H : Hp} (h : Same F H) {p : Addr} {o : HO} (fp : F p = none) : Same F (upd H p o) := fun b u e => by
  rw [upd_ne (ne_of_none e fp)]; exact h _ _ e
structure Own where
  fp : List Addr
  root : V
  ok : PySem.W.Frag → Hp → Hp → V → Prop
  stay : ∀ {K : PySem.W.Frag} {F F' H H' : Hp} {v : V}, Same F F' → (∀ b ∈ fp, ∀ o, H b = some o → H' b = some o) → ok K F H v → ok K F' H' v
  there : ∀ {K : PySem.W.Frag} {F H : Hp} {v : V}, ok K F H v → ∀ b ∈ fp, H b ≠ none
  rt : ∀ {K : PySem.W.Frag} {F H : Hp} {v : V}, ok K F H v → v = root
noncomputable def ownL {α : Type} (i : Rep α) (a : Addr) (xs : List α) : Own where
  fp := [a]
  root := .ref a
  ok := fun K F H v => v = .ref a ∧ ∃ vs, H a = some (.lst vs) ∧ Paired (fun u x => i.rp K F u x) vs xs
  stay := fun s k ⟨e, vs, h, p⟩ => ⟨e, vs, k a (List.mem_singleton.mpr rfl) _ h, Paired.mapP p fun _ _ q => i.mono s q⟩
  there := fun ⟨_, vs, h, _⟩ b hb z => by rw [List.mem_singleton.mp hb, h] at z; cases z
  rt := fun h => h.1
set_option genInjectivity true in
inductive Slot : Type 1 where
  | no
  | val {α : Type} (i : Rep α) (x : α)
  | own (o : Own)
noncomputable abbrev Slot.lst {α : Type} (i : Rep α) (a : Addr) (xs : List α) : Slot := .own (ownL i a xs)
noncomputable abbrev vl {α : Type} [i : Rep α] (x : α) : Slot := .val i x
noncomputable abbrev ls {α : Type} [i : Rep α] (a : Addr) (xs : List α) : Slot := .lst i a xs
set_option genInjectivity true in
inductive Ret : Type 1 where
  | val {α : Type} (i : Rep α) (x : α)
  | new {α : Type} (i : Rep α) (xs : List α)
  | own (P : Own → Prop)
  | chg {α : Type} (i : Rep α) (x : α) (os : List Own)
noncomputable abbrev rv {α : Type} [i : Rep α] (x : α) : Ret := .val i x
noncomputable abbrev rn {α : Type} [i : Rep α] (xs : List α) : Ret := .new i xs
structure Bs where
  F : Hp
  H : Hp
  M : Addr → Prop
noncomputable def Bs.nw (B : Bs) (b : Addr) : Prop := B.H b = none ∨ B.M b
noncomputable def SlotOk (K : PySem.W.Frag) (B : Bs) (F H : Hp) (ov : Option V) : Slot → Prop
  | .no => True
  | .val i x => ∃ v, ov = some v ∧ i.rp K F v x
  | .own o => ∃ v, ov = some v ∧ o.ok K F H v ∧ ∀ b ∈ o.fp, F b = none ∧ B.nw b
noncomputable def Slot.isOwn : Slot → Bool
  | .own _ => true
  | _ => false
noncomputable def Apart (Γ : List Slot) : Prop := ∀ (i j : Nat) o1 o2, i ≠ j → Γ[i]? = some (.own o1) → Γ[j]? = some (.own o2) → ∀ b ∈ o1.fp, b ∉ o2.fp
structure Lc (K : PySem.W.Frag) (B : Bs) (F H : Hp) (σ : L2.St) (Γ : List Slot) : Prop where
  ext : ExtM B.M B.F B.H F H
  len : σ.length = Γ.length
  ok : ∀ (i : Nat) s, Γ[i]? = some s → SlotOk K B F H (σ[i]?).join s
  ap : Apart Γ
section
variable {K : PySem.W.Frag} {B : Bs} {F H F' H' : Hp} {σ : L2.St} {Γ : List Slot} {α : Type} {i : Rep α}
theorem Lc.same (L : Lc K B F H σ Γ) : Same F H := L.ext.fh
theorem Lc.there (L : Lc K B F H σ Γ) : ∀ x, B.M x → B.H x ≠ none → H x ≠ none := L.ext.th
theorem Lc.nw (L : Lc K B F H σ Γ) {b : Addr} (h : H b = none) : B.nw b := by
  by_cases hm : B.M b
  · exact .inr hm
  · refine .inl ?_
    cases q : B.H b with
    | none => rfl
    | some o => rw [L.ext.hh b o hm q] at h; cases h
theorem SlotOk.step {ov : Option V} {s : Slot} (e : Ext F H F' H') (h : SlotOk K B F H ov s) : SlotOk K B F' H' ov s := by
  cases s with
  | no => trivial
  | val i x => obtain ⟨v, e1, r⟩ := h; exact ⟨v, e1, i.mono e.ff r⟩
  | own o =>
    obtain ⟨v, e1, ok, f⟩ := h
    exact ⟨v, e1, o.stay e.ff (fun b _ u q => e.hs _ _ q) ok, fun b hb => ⟨e.nw b (f b hb).1 (o.there ok b hb), (f b hb).2⟩⟩
theorem Lc.step (L : Lc K B F H σ Γ) (e : Ext F H F' H') : Lc K B F' H' σ Γ := ⟨L.ext.trans e, L.len, fun j s h => (L.ok j s h).step e, L.ap⟩
theorem slot_val {k : Nat} {x : α} (L : Lc K B F H σ Γ) (h : Γ[k]? = some (.val i x)) : ∃ v, σ[k]? = some (some v) ∧ i.rp K F v x := by
  obtain ⟨v, e, r⟩ := L.ok k _ h
  refine ⟨v, ?_, r⟩
  cases q : σ[k]? with
  | none => rw [q] at e; cases e
  | some o => rw [q] at e; rw [← e]; rfl
theorem slot_own {k : Nat} {o : Own} (L : Lc K B F H σ Γ) (h : Γ[k]? = some (.own o)) : ∃ v, σ[k]? = some (some v) ∧ o.ok K F H v ∧ ∀ b ∈ o.fp, F b = none ∧ B.nw b := by
  obtain ⟨v, e, r⟩ := L.ok k _ h
  refine ⟨v, ?_, r⟩
  cases q : σ[k]? with
  | none => rw [q] at e; cases e
  | some o => rw [q] at e; rw [← e]; rfl
theorem slot_lst {k : Nat} {a : Addr} {xs : List α} (L : Lc K B F H σ Γ) (h : Γ[k]? = some (.lst i a xs)) :
    ∃ vs, σ[k]? = some (some (.ref a)) ∧ F a = none ∧ B.nw a ∧ H a = some (.lst vs) ∧ Paired (fun u x => i.rp K F u x) vs xs := by
  obtain ⟨v, e, ⟨rfl, vs, h1, p⟩, f⟩ := slot_own L h
  exact ⟨vs, e, (f a (List.mem_singleton.mpr rfl)).1, (f a (List.mem_singleton.mpr rfl)).2, h1, p⟩
theorem get_set_join {σ : L2.St} {k j : Nat} {o : Option V} : ((σ.set k o)[j]?).join = if k = j ∧ j < σ.length then o else (σ[j]?).join := by
  by_cases h : k = j
  · subst h
    by_cases hl : k < σ.length
    · rw [List.getElem?_set_self hl, if_pos ⟨rfl, hl⟩]; rfl
    · rw [List.getElem?_eq_none (by simpa using hl), if_neg (fun z => hl z.2), List.getElem?_eq_none (by simpa using hl)]
  · rw [List.getElem?_set_ne h, if_neg (fun z => h z.1)]
theorem get_set_slot {Γ : List Slot} {k j : Nat} {o s : Slot} (h : (Γ.set k o)[j]? = some s) : (k = j ∧ j < Γ.length ∧ s = o) ∨ (k ≠ j ∧ Γ[j]? = some s) := by
  by_cases e : k = j
  · subst e
    have hl : k < Γ.length := by
      have := (List.getElem?_eq_some_iff.mp h).1
      simpa using this
    rw [List.getElem?_set_self hl] at h
    exact .inl ⟨rfl, hl, (Option.some.inj h).symm⟩
  · rw [List.getElem?_set_ne e] at h
    exact .inr ⟨e, h⟩
theorem Apart.put (A : Apart Γ) (k : Nat) {s : Slot} (hs : s.isOwn = false) : Apart (Γ.set k s) := fun i j o1 o2 hij h1 h2 => by
  rcases get_set_slot h1 with ⟨_, _, e⟩ | ⟨_, h1⟩
  · rw [← e] at hs; cases hs
  rcases get_set_slot h2 with ⟨_, _, e⟩ | ⟨_, h2⟩
  · rw [← e] at hs; cases hs
  exact A i j o1 o2 hij h1 h2
theorem Apart.putO (A : Apart Γ) (k : Nat) {o : Own} (h : ∀ (j : Nat) o', k ≠ j → Γ[j]? = some (.own o') → ∀ b ∈ o.fp, b ∉ o'.fp) : Apart (Γ.set k (.own o)) := fun i j o1 o2 hij h1 h2 b hb1 hb2 => by
  rcases get_set_slot h1 with ⟨k1, _, e⟩ | ⟨n1, h1⟩
  · cases e
    rcases get_set_slot h2 with ⟨k2, _, e⟩ | ⟨n2, h2⟩
    · exact hij (k1.symm.trans k2)
    · exact h j o2 n2 h2 b hb1 hb2
  · rcases get_set_slot h2 with ⟨k2, _, e⟩ | ⟨n2, h2⟩
    · cases e
      exact h i o1 n1 h1 b hb2 hb1
    · exact A i j o1 o2 hij h1 h2 b hb1 hb2
theorem Lc.put (L : Lc K B F H σ Γ) (k : Nat) {ov : Option V} {s : Slot} (hs : s.isOwn = false) (ho : SlotOk K B F H ov s) : Lc K B F H (σ.set k ov) (Γ.set k s) := by
  refine ⟨L.ext, by simp [L.len], fun j t h => ?_, L.ap.put k hs⟩
  rw [get_set_join]
  rcases get_set_slot h with ⟨e1, e2, rfl⟩ | ⟨e1, h⟩
  · rw [if_pos ⟨e1, by rw [L.len]; exact e2⟩]; exact ho
  · rw [if_neg fun z => e1 z.1]; exact L.ok j t h
theorem Lc.putV (L : Lc K B F H σ Γ) (k : Nat) {v : V} {x : α} (r : i.rp K F v x) : Lc K B F H (σ.set k (some v)) (Γ.set k (.val i x)) := L.put k rfl ⟨v, rfl, r⟩
theorem Lc.putN (L : Lc K B F H σ Γ) (k : Nat) (o : Option V) : Lc K B F H (σ.set k o) (Γ.set k .no) := L.put k rfl trivial
theorem Lc.ne_own (L : Lc K B F H σ Γ) {b : Addr} (hb : H b = none) {j : Nat} {o : Own} (h : Γ[j]? = some (.own o)) : b ∉ o.fp := fun hm => by
  obtain ⟨v, _, ok, _⟩ := slot_own L h
  exact o.there ok b hm hb
theorem Lc.putO (L : Lc K B F H σ Γ) (k : Nat) (e : Ext F H F' H') {o : Own} {v : V} (new : ∀ b ∈ o.fp, H b = none ∧ F' b = none) (ok : o.ok K F' H' v) : Lc K B F' H' (σ.set k (some v)) (Γ.set k (.own o)) := by
  have L' := L.step e
  refine ⟨L'.ext, by simp [L.len], fun j t h => ?_, L.ap.putO k fun j o' _ h b hb => L.ne_own (new b hb).1 h⟩
  rw [get_set_join]
  rcases get_set_slot h with ⟨e1, e2, rfl⟩ | ⟨e1, h⟩
  · rw [if_pos ⟨e1, by rw [L.len]; exact e2⟩]
    exact ⟨v, rfl, ok, fun b hb => ⟨(new b hb).2, L.nw (new b hb).1⟩⟩
  · rw [if_neg fun z => e1 z.1]; exact L'.ok j t h
theorem Lc.putL (L : Lc K B F H σ Γ) (k : Nat) (e : Ext F H F' H') {a : Addr} {vs : List V} {xs : List α} (ha : H a = none) (fa : F' a = none) (h' : H' a = some (.lst vs)) (p : Paired (fun u x => i.rp K F' u x) vs xs) :
    Lc K B F' H' (σ.set k (some (.ref a))) (Γ.set k (.lst i a xs)) := L.putO k e (fun b hb => by rw [List.mem_singleton.mp hb]; exact ⟨ha, fa⟩) ⟨rfl, vs, h', p⟩
theorem Lc.updO (L : Lc K B F H σ Γ) {k : Nat} {o o' : Own} {v : V} (hk : Γ[k]? = some (.own o)) (hv : σ[k]? = some (some v)) (keep : ∀ b u, b ∉ o.fp → H b = some u → H' b = some u) (old : ∀ b ∈ o.fp, H' b ≠ none)
    (fp : ∀ b ∈ o'.fp, b ∈ o.fp ∨ H b = none) (ok : o'.ok K F H' v) : Lc K B F H' σ (Γ.set k (.own o')) := by
  obtain ⟨_, _, _, f⟩ := slot_own L hk
  have nfp : ∀ b u, F b = some u → b ∉ o.fp := fun b u q hb => by rw [(f b hb).1] at q; cases q
  refine ⟨⟨L.ext.ff, fun b u q => keep b u (nfp b u q) (L.same _ _ q), fun b u nb q => ?_, L.ext.nwM, fun x hx hb => ?_⟩, by simp [L.len], fun q t h => ?_, L.ap.putO k fun j o2 hj h b hb => ?_⟩
  · refine keep b u (fun hb => ?_) (L.ext.hh b u nb q)
    rcases (f b hb).2 with z | z
    · rw [z] at q; cases q
    · exact nb z
  · by_cases hm : x ∈ o.fp
    · exact old x hm
    · have := L.there x hx hb
      cases q : H x with
      | none => exact absurd q this
      | some u => rw [keep x u hm q]; exact fun z => nomatch z
  · rcases get_set_slot h with ⟨e1, e2, rfl⟩ | ⟨e1, hq⟩
    · subst e1
      rw [hv]
      refine ⟨v, rfl, ok, fun b hb => ?_⟩
      rcases fp b hb with z | z
      · exact f b z
      · exact ⟨L.same.free z, L.nw z⟩
    · have old' := L.ok q t hq
      cases t with
      | no => trivial
      | val i x => exact old'
      | own o2 =>
        obtain ⟨u, eu, ok2, f2⟩ := old'
        exact ⟨u, eu, o2.stay (Same.refl F) (fun b hb w q1 => keep b w (fun hb2 => L.ap k q o o2 e1 hk hq b hb2 hb) q1) ok2, f2⟩
  · rcases fp b hb with z | z
    · exact L.ap k j o o2 hj hk h b z
    · exact L.ne_own z h
theorem Lc.updL (L : Lc K B F H σ Γ) {k : Nat} {a : Addr} {β : Type} {j : Rep β} {ys : List β} {vs' : List V} {xs' : List α} (hk : Γ[k]? = some (.lst j a ys)) (p : Paired (fun u x => i.rp K F u x) vs' xs') :
    Lc K B F (upd H a (.lst vs')) σ (Γ.set k (.lst i a xs')) := by
  obtain ⟨vs, ea, _⟩ := slot_lst L hk
  refine L.updO hk ea (fun b u hb q => ?_) (fun b hb => ?_) (fun b hb => .inl hb) ⟨rfl, vs', upd_same, p⟩
  · rw [upd_ne (fun z => hb (List.mem_singleton.mpr z))]; exact q
  · rw [List.mem_singleton.mp hb, upd_same]; exact fun z => nomatch z
end
section
variable {X : Cx} {σ : L2.St} {H : Hp}
structure WE (X : Cx) (e : Expr) (σ : L2.St) (H : Hp) (Q : VK) : Prop where
  go : ∀ pins s, Inv X pins σ H s → wpAny (model X.prog X.w) X.A (eval e X.env) (EP X pins σ Q) X.xe s
structure WT (X : Cx) (e : Expr) (σ : L2.St) (H : Hp) (Q : Bool → Hp → Prop) : Prop where
  go : ∀ pins s, Inv X pins σ H s → wpAny (model X.prog X.w) X.A (isTrue e X.env (eval e X.env)) (TP X pins σ Q) X.xe s
structure WA (X : Cx) (es : List Expr) (σ : L2.St) (H : Hp) (Q : List V → Hp → Prop) : Prop where
  go : ∀ pos pins s, Inv X pins σ H s → wpAny (model X.prog X.w) X.A (spliced (backTo pos (starEach es X.env))) (AP X pins σ Q) X.xe s
structure WP (X : Cx) (st : List Stmt) (D : Ends) (σ : L2.St) (H : Hp) : Prop where
  go : ∀ pins s, Inv X pins σ H s → wpAny (model X.prog X.w) X.A (execs st X.env) (SP X pins D) X.xe s
theorem peW {e : Expr} : PE X e (WE X e) := ⟨fun pins s _ _ _ I h => h.go pins s I⟩
theorem ptW {e : Expr} : PT X e (WT X e) := ⟨fun pins s _ _ _ I h => h.go pins s I⟩
theorem paW {es : List Expr} : PA X es (WA X es) := ⟨fun pos pins s _ _ _ I h => h.go pos pins s I⟩
theorem psW {st : List Stmt} : PSs X st (WP X st) := ⟨fun pins s _ _ _ I h => h.go pins s I⟩
theorem WE.of {e : Expr} {t : TE} {Q : VK} (p : PE X e t) (h : t σ H Q) : WE X e σ H Q := ⟨fun pins s I => p.run pins s σ H Q I h⟩
theorem WT.of {e : Expr} {t : TT} {Q : Bool → Hp → Prop} (p : PT X e t) (h : t σ H Q) : WT X e σ H Q := ⟨fun pins s I => p.run pins s σ H Q I h⟩
theorem WA.of {es : List Expr} {t : TA} {Q : List V → Hp → Prop} (p : PA X es t) (h : t σ H Q) : WA X es σ H Q := ⟨fun pos pins s I => p.run pos pins s σ H Q I h⟩
theorem WP.of {st : List Stmt} {t : TS} {D : Ends} (p : PSs X st t) (h : t D σ H) : WP X st D σ H := ⟨fun pins s I => p.run pins s σ H D I h⟩
theorem WP.cons {st : Stmt} {rest : List Stmt} {t : TS} {D : Ends} (p : PS X st t) (h : t { D with nx := fun σ' H' => WP X rest D σ' H' } σ H) : WP X (st :: rest) D σ H :=
  WP.of (pss_cons p psW) h
end
noncomputable def ROk (K : PySem.W.Frag) (N : Addr → Prop) (F' H' : Hp) (v : V) : Ret → Prop
  | .val i x => i.rp K F' v x
  | .new i xs => ∃ a vs, v = .ref a ∧ N a ∧ F' a = none ∧ H' a = some (.lst vs) ∧ Paired (fun u x => i.rp K F' u x) vs xs
  | .own P => ∃ o, P o ∧ (∀ b ∈ o.fp, N b ∧ F' b = none) ∧ o.ok K F' H' v
  | .chg i x os => i.rp K F' v x ∧ (∀ o ∈ os, o.ok K F' H' o.root ∧ ∀ b ∈ o.fp, N b ∧ F' b = none) ∧ os.Pairwise fun o1 o2 => ∀ b ∈ o1.fp, b ∉ o2.fp
noncomputable abbrev Nw (H : Hp) : Addr → Prop := fun b => H b = none
theorem ROk.imp {K : PySem.W.Frag} {N N' : Addr → Prop} {F' H' : Hp} {v : V} {r : Ret} (h : ROk K N F' H' v r) (n : ∀ b, N b → N' b) : ROk K N' F' H' v r := by
  cases r with
  | val i x => exact h
  | new i xs => obtain ⟨a, vs, e, h1, h2⟩ := h; exact ⟨a, vs, e, n a h1, h2⟩
  | own P => obtain ⟨o, p, f, ok⟩ := h; exact ⟨o, p, fun b hb => ⟨n b (f b hb).1, (f b hb).2⟩, ok⟩
  | chg i x os => obtain ⟨r, f, d⟩ := h; exact ⟨r, fun o ho => ⟨(f o ho).1, fun b hb => ⟨n b ((f o ho).2 b hb).1, ((f o ho).2 b hb).2⟩⟩, d⟩
noncomputable def EX (X : Cx) (Γ : List Slot) (e : Expr) (P : Ret → Prop) : Prop :=
  ∀ B F H σ Q, Lc X.K B F H σ Γ → (∀ r v F' H', P r → Ext F H F' H' → ROk X.K (Nw H) F' H' v r → Q v H') → WE X e σ H Q
noncomputable def EV (X : Cx) (Γ : List Slot) (e : Expr) {α : Type} [i : Rep α] (x : α) : Prop :=
  ∀ B F H σ Q, Lc X.K B F H σ Γ → (∀ v F' H', Ext F H F' H' → i.rp X.K F' v x → Q v H') → WE X e σ H Q
noncomputable def EN (X : Cx) (Γ : List Slot) (e : Expr) {α : Type} [i : Rep α] (xs : List α) : Prop :=
  ∀ B F H σ Q, Lc X.K B F H σ Γ → (∀ a vs F' H', Ext F H F' H' → H a = none → F' a = none → H' a = some (.lst vs) → Paired (fun u x => i.rp X.K F' u x) vs xs → Q (.ref a) H') → WE X e σ H Q
noncomputable def ET (X : Cx) (Γ : List Slot) (e : Expr) (b : Bool) : Prop :=
  ∀ B F H σ Q, Lc X.K B F H σ Γ → (∀ F' H', Ext F H F' H' → Q b H') → WT X e σ H Q
noncomputable def VsOk (K : PySem.W.Frag) (F : Hp) : List V → List Slot → Prop
  | [], [] => True
  | v :: vs, .val i x :: A => i.rp K F v x ∧ VsOk K F vs A
  | _, _ => False
noncomputable def EA (X : Cx) (Γ : List Slot) (es : List Expr) (A : List Slot) : Prop :=
  ∀ B F H σ Q, Lc X.K B F H σ Γ → (∀ vs F' H', Ext F H F' H' → VsOk X.K F' vs A → Q vs H') → WA X es σ H Q
theorem VsOk.mono {K : PySem.W.Frag} {F F' : Hp} (s : Same F F') : ∀ {vs : List V} {A : List Slot}, VsOk K F vs A → VsOk K F' vs A
  | [], [], _ => trivial
  | v :: vs, .val i x :: A, h => ⟨i.mono s h.1, VsOk.mono s h.2⟩
  | [], _ :: _, h => h.elim
  | _ :: _, [], h => h.elim
  | _ :: _, .no :: _, h => h.elim
  | _ :: _, .own _ :: _, h => h.elim
theorem VsOk.len {K : PySem.W.Frag} {F : Hp} : ∀ {vs : List V} {A : List Slot}, VsOk K F vs A → vs.length = A.length
  | [], [], _ => rfl
  | v :: vs, .val i x :: A, h => by rw [List.length_cons, List.length_cons, VsOk.len h.2]
  | [], _ :: _, h => h.elim
  | _ :: _, [], h => h.elim
  | _ :: _, .no :: _, h => h.elim
  | _ :: _, .own _ :: _, h => h.elim
structure Exn where
  cls : Str
  fld : Str
  why : Slot
noncomputable abbrev Spec := List Slot → (Ret → Prop) → (Exn → Prop) → Prop
noncomputable def XOk (K : PySem.W.Frag) (N : Addr → Prop) (F' H' : Hp) (u : Value) (d : Option Addr) (x : Exn) : Prop :=
  ∃ C, u = .ref C ∧ PySem.W.nsIn K mainGlobals x.cls = some (some (.ref C)) ∧
    match x.why with
    | .no => d = none
    | .val i y => ∃ dx w, d = some dx ∧ N dx ∧ F' dx = none ∧ H' dx = some (.xd [(x.fld, w)]) ∧ i.rp K F' w y
    | .own _ => False
theorem XOk.imp {K : PySem.W.Frag} {N N' : Addr → Prop} {F' H' : Hp} {u : Value} {d : Option Addr} {x : Exn} (h : XOk K N F' H' u d x) (n : ∀ a, N a → N' a) : XOk K N' F' H' u d x := by
  obtain ⟨C, e1, e2, h⟩ := h
  refine ⟨C, e1, e2, ?_⟩
  obtain ⟨cls, fld, why⟩ := x
  cases why with
  | no => exact h
  | val i y =>
    obtain ⟨dx, w, e3, e4, h⟩ := h
    exact ⟨dx, w, e3, n _ e4, h⟩
  | own o => exact h
noncomputable def Free (Γ : List Slot) (b : Addr) : Prop := ∀ (k : Nat) o, Γ[k]? = some (.own o) → b ∉ o.fp
noncomputable def FrC (K : PySem.W.Frag) (cls : Value) : Prop := ∃ f : Addr, PySem.W.findIn K cls "__init__" = some (some (.ref f))
theorem sky_zc {B h : Heap} {l : List Env} {a : Addr} {cls : Value} {d : Option Addr} {L : Addr} (x : Sky B l a (L2N.Zn cls d) L h) : Sky B l a (Zc cls d) L h := by
  have tr : ∀ {fl : Value}, HandSPX.TracedZ h B a (L2N.Zn cls d) fl → HandSPX.TracedZ h B a (Zc cls d) fl := fun t => L2H.tracedZ_imp (fun o z => z.zc) t
  rcases x with ⟨a1, a2, a3, oe, vs, a4, a5, a6⟩ | ⟨a1, a2, a3, t⟩ | ⟨a1, a2, a3, t⟩
  · exact .inl ⟨a1, a2, a3, oe, vs, a4, a5.zc, a6⟩
  · exact .inr (.inl ⟨a1, a2, a3, tr t⟩)
  · exact .inr (.inr ⟨a1, a2, a3, tr t⟩)
theorem xe_zc {X : Cx} {W : WX} {u : Value} {s' : Shared} (x : L2N.XE X W u s') : XE X W u s' := by
  obtain ⟨a, B, sI, pins, σ, H, cls, d, e, I, nb, up, sky, na, os, ag, h⟩ := x
  exact ⟨a, B, sI, pins, σ, H, cls, d, e, I, nb, up, sky_zc sky, na, os, ag, h⟩
theorem xe_imp {X : Cx} {W W' : WX} {u : Value} {s' : Shared} (f : ∀ c d σ H, W c d σ H → W' c d σ H) (x : XE X W u s') : XE X W' u s' := by
  obtain ⟨a, B, sI, pins, σ, H, cls, d, e, I, nb, up, sky, na, os, ag, h⟩ := x
  exact ⟨a, B, sI, pins, σ, H, cls, d, e, I, nb, up, sky, na, os, ag, f _ _ _ _ h⟩
noncomputable def XEm (X : Cx) (W : WX) (u : Value) (s' : Shared) : Prop := L2N.XE X W u s' ∨ XE X (fun c d σ H => FrC X.K c ∧ W c d σ H) u s'
theorem XEm.xe {X : Cx} {W : WX} {u : Value} {s' : Shared} (x : XEm X W u s') : XE X W u s' := x.elim xe_zc (xe_imp fun _ _ _ _ h => h.2)
noncomputable def Takesm (X : Cx) (W : WX) : Prop := ∀ u s', XEm X W u s' → X.xe u s'
theorem takesm_of {X : Cx} {W : WX} (tk : Takes X W) : Takesm X W := fun u s' x => tk u s' x.xe
noncomputable def CXm (P : Program) (w : World) (K : PySem.W.Frag) (outer : List Env) (H : Hp) (s : Shared) (E : XK) (u : Value) (s' : Shared) : Prop := L2N.CX P w outer H s E u s' ∨ L2.CX P w outer H s (fun c d H' => FrC K c ∧ E c d H') u s'
theorem passLm {X : Cx} : Passes (CXm X.prog X.w X.K) X E0 := fun _ _ _ _ _ _ _ h => by
  rcases h with ⟨_, _, _, _, _, _, _, _, _, _, _, _, z⟩ | ⟨_, _, _, _, _, _, _, _, _, _, _, _, z⟩
  · exact z.elim
  · exact z.2.elim
theorem _root_.L2.Fun.okM {P : Program} {w : World} {K : PySem.W.Frag} {mg : Str → Option Value} {base : Heap} {x qual : Str} {st : Stmt} {f : Addr} {fd : FuncData} {N ps : List Str} {k : Nat} {sp : Sp} (F : L2.Fun K x qual st f fd) (S : FnScope N ps (defScope st))
    (len : ∀ vs H Q E, sp vs H Q E → vs.length = ps.length)
    (run : ∀ (cv : Value) (A : Around) (outer : List Env) (s : Shared) (H : Hp) (vs : List V) (Q : VK) (E : XK), Room k (A.deeper (envOfC qual (defScope st) s.heap.objs.size f cv)) → sp vs H Q E →
      ∃ t, PSs (cxOf (CXm P w K) P w K mg base N qual (defScope st) f cv A outer s H E) (defBody st) t ∧ t { nx := fun _ H' => Q .non H', rt := Q } (L2.start N vs) H) : FnOk P w K mg base (CXm P w K) (k + 1) f fd ps sp := by
  obtain ⟨c1, c2, c3, c4, c5, c6, cv, c7, c8, rfl, lk, hc⟩ := F.ex
  exact fn_of lk hc S len fun A outer s H vs Q E hr h => run cv A outer s H vs Q E hr h
noncomputable def XW (X : Cx) : WX := fun cls d σ H => ∀ u s', XEm X (fun c d' σ' H' => c = cls ∧ d' = d ∧ σ' = σ ∧ H' = H) u s' → X.xe u s'
theorem takesW {X : Cx} : Takesm X (XW X) := fun u s' x => by
  rcases x with ⟨a, B, sI, pins, σ, H, cls, d, e, I, nb, up, sky, na, os, ag, h⟩ | ⟨a, B, sI, pins, σ, H, cls, d, e, I, nb, up, sky, na, os, ag, fr, h⟩
  · exact h u s' (.inl ⟨a, B, sI, pins, σ, H, cls, d, e, I, nb, up, sky, na, os, ag, rfl, rfl, rfl, rfl⟩)
  · exact h u s' (.inr ⟨a, B, sI, pins, σ, H, cls, d, e, I, nb, up, sky, na, os, ag, fr, rfl, rfl, rfl, rfl⟩)
theorem takesWn {X : Cx} : L2N.Takes X (XW X) := fun u s' x => takesW u s' (.inl x)
theorem takesWf {X : Cx} : Takes X (fun c d σ H => FrC X.K c ∧ XW X c d σ H) := fun u s' x => takesW u s' (.inr x)
theorem XW.of {X : Cx} {W : WX} (tk : Takesm X W) {cls : Value} {d : Option Addr} {σ : L2.St} {H : Hp} (h : W cls d σ H) : XW X cls d σ H := fun u s' x => by
  rcases x with ⟨a, B, sI, pins, σ', H', cls', d', e, I, nb, up, sky, na, os, ag, e1, e2, e3, e4⟩ | ⟨a, B, sI, pins, σ', H', cls', d', e, I, nb, up, sky, na, os, ag, fr, e1, e2, e3, e4⟩
  · subst e1 e2 e3 e4
    exact tk u s' (.inl ⟨a, B, sI, pins, σ', H', cls', d', e, I, nb, up, sky, na, os, ag, h⟩)
  · subst e1 e2 e3 e4
    exact tk u s' (.inr ⟨a, B, sI, pins, σ', H', cls', d', e, I, nb, up, sky, na, os, ag, fr, h⟩)
theorem XW.ofN {X : Cx} {W : WX} (tk : L2N.Takes X W) {cls : Value} {d : Option Addr} {σ : L2.St} {H : Hp} (nf : ¬ FrC X.K cls) (h : W cls d σ H) : XW X cls d σ H := fun u s' x => by
  rcases x with ⟨a, B, sI, pins, σ', H', cls', d', e, I, nb, up, sky, na, os, ag, e1, e2, e3, e4⟩ | ⟨a, B, sI, pins, σ', H', cls', d', e, I, nb, up, sky, na, os, ag, fr, e1, e2, e3, e4⟩
  · subst e1 e2 e3 e4
    exact tk u s' ⟨a, B, sI, pins, σ', H', cls', d', e, I, nb, up, sky, na, os, ag, h⟩
  · subst e1
    exact absurd fr nf
theorem takes_ofm {X : Cx} {E : XK} (hs : X.stack = X.env :: X.outer) (hf : X.env.frame = some X.env.locals) (hex : X.ex = []) {E₁ : Value → Shared → Prop}
    (hx : X.xe = fun e s' => wpAny (model X.prog X.w) X.A (leaving X.env e) (fun _ s'' => CXm X.prog X.w X.K X.outer X.H_0 X.s_0 E e s'') E₁ s') : Takesm X (fun cls d _ H => E cls d H) := fun u s' x => by
  rw [hx]
  rcases x with x | x
  · exact wpAny_mono (L2N.XE.leave (E := E) hs hf hex (fun _ _ _ _ h => h) x) (fun _ _ h => .inl h) fun _ _ h => h
  · exact wpAny_mono (L2.XE.leave (E := fun c d H' => FrC X.K c ∧ E c d H') hs hf hex (fun _ _ _ _ h => h) x) (fun _ _ h => .inr h) fun _ _ h => h
theorem passAtm {X : Cx} {W : WX} (tk : Takesm X W) (σ : L2.St) : PassesAt (CXm X.prog X.w X.K) X σ (fun cls d H => W cls d σ H) := fun pins H s e s' I c => tk e s' (c.imp (fun c => L2N.XE.of_call I (fun _ _ _ h => h) c) (fun c => L2.XE.of_call I (fun _ _ _ h => h) c))
noncomputable def VsOkO (K : PySem.W.Frag) (F H : Hp) : List V → List Slot → Prop
  | [], [] => True
  | v :: vs, .val i x :: A => i.rp K F v x ∧ VsOkO K F H vs A
  | v :: vs, .own o :: A => o.ok K F H v ∧ (∀ b ∈ o.fp, F b = none) ∧ VsOkO K F H vs A
  | _, _ => False
noncomputable def MA (A : List Slot) : Addr → Prop := fun b => ∃ o, Slot.own o ∈ A ∧ b ∈ o.fp
theorem VsOkO.len {K : PySem.W.Frag} {F H : Hp} : ∀ {vs : List V} {A : List Slot}, VsOkO K F H vs A → vs.length = A.length
  | [], [], _ => rfl
  | v :: vs, .val i x :: A, h => by rw [List.length_cons, List.length_cons, VsOkO.len h.2]
  | v :: vs, .own o :: A, h => by rw [List.length_cons, List.length_cons, VsOkO.len h.2.2]
  | [], _ :: _, h => h.elim
  | _ :: _, [], h => h.elim
  | _ :: _, .no :: _, h => h.elim
theorem VsOk.toO {K : PySem.W.Frag} {F H : Hp} : ∀ {vs : List V} {A : List Slot}, VsOk K F vs A → VsOkO K F H vs A
  | [], [], _ => trivial
  | v :: vs, .val i x :: A, h => ⟨h.1, VsOk.toO h.2⟩
  | [], _ :: _, h => h.elim
  | _ :: _, [], h => h.elim
  | _ :: _, .no :: _, h => h.elim
  | _ :: _, .own _ :: _, h => h.elim
theorem VsOk.no {K : PySem.W.Frag} {F : Hp} : ∀ {vs : List V} {A : List Slot}, VsOk K F vs A → ∀ o, Slot.own o ∉ A
  | [], [], _, _, h => by cases h
  | v :: vs, .val i x :: A, h, o, m => by
    rcases List.mem_cons.mp m with z | z
    · cases z
    · exact VsOk.no h.2 o z
  | [], _ :: _, h, _, _ => h.elim
  | _ :: _, [], h, _, _ => h.elim
  | _ :: _, .no :: _, h, _, _ => h.elim
  | _ :: _, .own _ :: _, h, _, _ => h.elim
theorem VsOk.apart {K : PySem.W.Frag} {F : Hp} {vs : List V} {A : List Slot} (h : VsOk K F vs A) : Apart A := fun i j o1 o2 _ h1 _ => absurd (List.mem_of_getElem? h1) (h.no o1)
theorem VsOk.ma {K : PySem.W.Frag} {F : Hp} {vs : List V} {A : List Slot} (h : VsOk K F vs A) {b : Addr} (m : MA A b) : False := by
  obtain ⟨o, h1, _⟩ := m
  exact h.no o h1
theorem Ext.thenM {M : Addr → Prop} {F H F1 H1 F2 H2 : Hp} (a : Ext F H F1 H1) (b : ExtM M F1 H1 F2 H2) (n : ∀ x, M x → H x = none) : Ext F H F2 H2 :=
  ⟨a.ff.trans b.ff, b.fh, fun x o _ h => b.hh x o (fun m => by rw [n x m] at h; cases h) (a.hs x o h), fun x _ h1 h2 => b.nwM x (fun m => h2 (n x m)) (a.nw x h1 h2) (by
    cases q : H x with
    | none => exact absurd q h2
    | some o => rw [a.hs x o q]; exact fun z => nomatch z), fun _ z => z.elim⟩
noncomputable def spOf (K : PySem.W.Frag) (S : Spec) : Sp := fun vs H Q E => ∃ F A, Same F H ∧ VsOkO K F H vs A ∧ Apart A ∧
  S A (fun r => ∀ v F' H', ExtM (MA A) F H F' H' → ROk K (Bs.nw ⟨F, H, MA A⟩) F' H' v r → Q v H') (fun x => ∀ u d F' H', ExtM (MA A) F H F' H' → XOk K (Bs.nw ⟨F, H, MA A⟩) F' H' u d x → E u d H')
structure Has (P : Program) (w : World) (K : PySem.W.Frag) (mg : Str → Option Value) (base : Heap) (k : Nat) (n : Str) (ps : List Str) (S : Spec) : Prop where
  ex : ∃ f fd, mg n = some (.ref f) ∧ PySem.W.keepIn K (.ref f) = true ∧ Binds K fd ps [] ∧ FnOk P w K mg base (CXm P w K) k f fd ps (spOf K S)
structure SE where
  nx : List Slot → Prop
  rt : Ret → Prop
  bk : List Slot → Prop
  ct : List Slot → Prop
  ex : List Slot → Exn → Prop
noncomputable abbrev fin (Q : Ret → Prop) : SE := ⟨fun _ => Q (.val repUnit ()), Q, fun _ => False, fun _ => False, fun _ _ => False⟩
noncomputable abbrev finX (Q : Ret → Prop) (R : Exn → Prop) : SE := ⟨fun _ => Q (.val repUnit ()), Q, fun _ => False, fun _ => False, fun _ => R⟩
structure ED (X : Cx) (B : Bs) (F0 : Hp) (E : SE) (D : Ends) : Prop where
  nx : ∀ F H σ Γ, Same F0 F → E.nx Γ → Lc X.K B F H σ Γ → D.nx σ H
  rt : ∀ r v F H, E.rt r → ExtM B.M B.F B.H F H → ROk X.K B.nw F H v r → D.rt v H
  bk : ∀ F H σ Γ, Same F0 F → E.bk Γ → Lc X.K B F H σ Γ → D.bk σ H
  ct : ∀ F H σ Γ, Same F0 F → E.ct Γ → Lc X.K B F H σ Γ → D.ct σ H
  ex : ∀ F H σ Γ x u d, Same F0 F → E.ex Γ x → Lc X.K B F H σ Γ → XOk X.K (fun b => B.nw b ∧ Free Γ b) F H u d x → XW X u d σ H
theorem ED.weak {X : Cx} {B : Bs} {F0 F1 : Hp} {E : SE} {D : Ends} (h : ED X B F0 E D) (s : Same F0 F1) : ED X B F1 E D :=
  ⟨fun F H σ Γ q => h.nx F H σ Γ (s.trans q), h.rt, fun F H σ Γ q => h.bk F H σ Γ (s.trans q), fun F H σ Γ q => h.ct F H σ Γ (s.trans q), fun F H σ Γ x u d q => h.ex F H σ Γ x u d (s.trans q)⟩
theorem ED.exS {X : Cx} {B : Bs} {F0 F H F' H' : Hp} {E : SE} {D : Ends} {Γ : List Slot} {σ : L2.St} {x : Exn} {u : Value} {d : Option Addr} (ed : ED X B F0 E D) (s : Same F0 F) (hE : E.ex Γ x) (L : Lc X.K B F H σ Γ) (e : Ext F H F' H') (ok : XOk X.K (Nw H) F' H' u d x) : XW X u d σ H' :=
  ed.ex F' H' σ Γ x u d (s.trans e.ff) hE (L.step e) (ok.imp fun b h => ⟨L.nw h, fun k o hk => L.ne_own h hk⟩)
noncomputable def ST (X : Cx) (sts : List Stmt) (Γ : List Slot) (E : SE) : Prop :=
  ∀ B F H σ D, Lc X.K B F H σ Γ → ED X B F E D → WP X sts D σ H
noncomputable def noStar : Expr → Bool
  | .Starred .. => false
  | _ => true
theorem star_of {e : Expr} {es : List Expr} {env : Env} (h : noStar e = true) : starEach (e :: es) env = (false, eval e env) :: starEach es env := by
  cases e <;> first | rfl | cases h
theorem pl_of {pos : Pos} {env : Env} : ∀ {es : List Expr}, es.all noStar = true → (backTo pos (starEach es env)).any (·.1) = false
  | [], _ => rfl
  | e :: es, h => by
    rw [List.all_cons, Bool.and_eq_true] at h
    rw [star_of h.1]
    exact pl_of h.2
noncomputable def visB (sc : Scope) (x : Str) : Bool := match sc.names.lookup x with
  | some .local => true
  | some .cell => true
  | some .free => true
  | _ => false
theorem vis_of {sc : Scope} {x : Str} (h : visB sc x = true) : L2.Vis sc x := by
  unfold visB at h
  split at h
  · exact Or.inl (by assumption)
  · exact Or.inr (Or.inl (by assumption))
  · exact Or.inr (Or.inr (by assumption))
  · cases h
noncomputable def locB (sc : Scope) (x : Str) : Bool := match sc.names.lookup x with
  | some .local => true
  | some .cell => true
  | _ => false
theorem loc_of {sc : Scope} {x : Str} (h : locB sc x = true) : L2.Loc sc x := by
  unfold locB at h
  split at h
  · exact Or.inl (by assumption)
  · exact Or.inr (by assumption)
  · cases h
def aSeq (x : Lean.Syntax) : Lean.Syntax := .node .none `Lean.Parser.Tactic.tacticSeq #[.node .none `Lean.Parser.Tactic.tacticSeq1Indented #[.node .none `null #[x]]]
def aEx (n : Lean.Name) : Lean.Syntax := aSeq (.node .none `Lean.Parser.Tactic.exact #[.atom .none "exact", .node .none `Lean.Parser.Term.app #[.ident .none n.toString.toRawSubstring n [.decl n []], .node .none `null #[.ident .none "rfl".toRawSubstring `rfl [.decl `rfl []]]]])
def aStar : Lean.Syntax := aEx `Tw.star_of
def aPl : Lean.Syntax := aEx `Tw.pl_of
def aVis : Lean.Syntax := aEx `Tw.vis_of
def aLoc : Lean.Syntax := aEx `Tw.loc_of
def aHole : Lean.Syntax := .node .none `Lean.Parser.Term.hole #[.atom .none "_"]
def aIn (n : Nat) : Lean.Syntax := .node .none `Lean.Parser.Tactic.tacticSeq #[.node .none `Lean.Parser.Tactic.tacticSeq1Indented #[.node .none `null #[.node .none `Lean.Parser.Tactic.intro #[.atom .none "intro", .node .none `null (Array.replicate n aHole)], .atom .none ";", .node .none `Lean.Parser.Tactic.tacticRfl #[.atom .none "rfl"]]]]
def aIR1 : Lean.Syntax := aIn 1
def aDot (n : Lean.Name) (s : String) : Lean.Syntax := .node .none `group #[.atom .none "|", aSeq (.node .none `Lean.Parser.Tactic.exact #[.atom .none "exact", .node .none `Lean.Parser.Term.app #[.node .none `Lean.Parser.Term.dotIdent #[.atom .none ".", .ident .none s.toRawSubstring n []], .node .none `null #[.ident .none "rfl".toRawSubstring `rfl [.decl `rfl []]]]])]
def aNle : Lean.Syntax := aEx `Nat.le_of_ble_eq_true
def aAlt (x : Lean.Syntax) : Lean.Syntax := .node .none `group #[.atom .none "|", x]
def aPass : Lean.Syntax := aSeq (.node .none `Lean.Parser.Tactic.first #[.atom .none "first", .node .none `null #[aAlt (aSeq (.node .none `Lean.Parser.Tactic.exact #[.atom .none "exact", .ident .none "PySem.PassesOwn.never".toRawSubstring `PySem.PassesOwn.never [.decl `PySem.PassesOwn.never []]])), aAlt (aEx `L2.passes_of), aAlt (aSeq (.node .none `Lean.Parser.Tactic.assumption #[.atom .none "assumption"]))]])
def aFn : Lean.Syntax := aSeq (.node .none `Lean.Parser.Tactic.first #[.atom .none "first", .node .none `null #[aDot `inl "inl", aDot `inr "inr"]])
def aIR2 : Lean.Syntax := aIn 2
def aDec : Lean.Syntax := aSeq (.node .none `Lean.Parser.Tactic.decide #[.atom .none "decide", .node .none `Lean.Parser.Tactic.optConfig #[.node .none `null #[]]])
end Tw
namespace Tw
open PySem PySem.Spec PyProof.Rows L2 TL
noncomputable abbrev tx (s : String) : Tx := s.toList.map Char.toNat
theorem sl_small {n : Nat} (h : n ≤ 1000) : n ≤ sizeLine := Nat.le_trans h (by decide)
theorem sx_tx (s : String) : Str.ofString s = sx (tx s) := ext_tl (by rw [tl_ofString]; rfl)
section
variable {X : Cx} {Γ : List Slot} {α β γ : Type} {i : Rep α} {j : Rep β} {l : Rep γ} {pos p : Pos} {e a b c : Expr} {es : List Expr}
theorem ev_of_ex {x : α} (h : EX X Γ e fun r => r = .val i x) : EV X Γ e x := fun B F H σ Q L q =>
  h B F H σ Q L fun r v F' H' er ex ok => by subst er; exact q v F' H' ex ok
theorem en_of_ex {xs : List α} (h : EX X Γ e fun r => r = .new i xs) : EN X Γ e xs := fun B F H σ Q L q =>
  h B F H σ Q L fun r v F' H' er ex ok => by
    subst er
    obtain ⟨a, vs, rfl, h1, h2, h3, h4⟩ := ok
    exact q a vs F' H' ex h1 h2 h3 h4
theorem ev_of_en {xs : List α} (h : EN X Γ e xs) : EV X Γ e xs := fun B F H σ Q L q =>
  h B F H σ Q L fun a vs F' H' ex ha fa h' p => by
    have sm : Same F' (upd F' a (.lst vs)) := fun b u e => by rw [upd_ne (ne_of_none e fa)]; exact e
    refine q (.ref a) (upd F' a (.lst vs)) H' ⟨ex.ff.trans sm, fun b u e => ?_, ex.hh, fun b _ h1 h2 => ?_, fun _ z => z.elim⟩ ⟨a, vs, rfl, upd_same, Paired.mapP p fun _ _ q => i.mono sm q⟩
    · by_cases hb : b = a
      · subst hb; rw [upd_same] at e; rw [← e]; exact h'
      · rw [upd_ne hb] at e; exact ex.fh _ _ e
    · rw [upd_ne (fun z => by subst z; exact h2 ha)]; exact ex.nw b h1 h2
theorem ex_of_ev {x : α} {P : Ret → Prop} (h : EV X Γ e x) (hp : P (.val i x)) : EX X Γ e P := fun B F H σ Q L q =>
  h B F H σ Q L fun v F' H' ex r => q (.val i x) v F' H' hp ex r
theorem ex_of_en {xs : List α} {P : Ret → Prop} (h : EN X Γ e xs) (hp : P (.new i xs)) : EX X Γ e P := fun B F H σ Q L q =>
  h B F H σ Q L fun a vs F' H' ex ha fa h' p => q (.new i xs) (.ref a) F' H' hp ex ⟨a, vs, rfl, ha, fa, h', p⟩
theorem ev_eq {x y : α} (h : EV X Γ e x) (q : x = y) : EV X Γ e y := q ▸ h
theorem en_eq {x y : List α} (h : EN X Γ e x) (q : x = y) : EN X Γ e y := q ▸ h
theorem et_eq {x y : Bool} (h : ET X Γ e x) (q : x = y) : ET X Γ e y := q ▸ h
theorem et_val {k : Bool} (h : EV X Γ e k) (he : autoParam (∀ whole, isTrue e X.env whole = (do let v ← whole; standAt e.pos; holding [v] (truthy v))) Tw.aIR1) : ET X Γ e k := fun B F H σ Q L q =>
  WT.of (pt_val peW he) (h B F H σ _ L fun v F' H' ex r => ⟨k, r, q F' H' ex⟩)
theorem ev_var (k : Nat) {n : Str} {x : α} (hN : autoParam (X.N[k]? = some n) aRfl) (hv : autoParam (Vis X.env.scope n) aVis) (hd : autoParam ((n == ("__debug__" : Str)) = false) aDec)
    (hcd : autoParam ((n == ("__classdict__" : Str)) = false) aDec) (hg : autoParam (Γ[k]? = some (.val i x)) aRfl) : EV X Γ (.Name n pos) x := fun B F H σ Q L q => by
  obtain ⟨v, e1, r⟩ := slot_val L hg
  exact WE.of (pe_var hN hv hd hcd) ⟨v, e1, q v F H (Ext.refl L.same) r⟩
theorem ev_int {z : Int} {k} : EV X Γ (.Constant (.int z) k pos) z := fun B F H σ Q L q => WE.of pe_int (q _ F H (Ext.refl L.same) rfl)
theorem ev_bl {z : Bool} {k} : EV X Γ (.Constant (.bool z) k pos) z := fun B F H σ Q L q => WE.of pe_bl (q _ F H (Ext.refl L.same) rfl)
theorem ev_non {k} : EV X Γ (.Constant .none k pos) () := fun B F H σ Q L q => WE.of pe_non (q _ F H (Ext.refl L.same) rfl)
theorem ev_nonO {k} : EV X Γ (.Constant .none k pos) (none : Option α) := fun B F H σ Q L q => WE.of pe_non (q _ F H (Ext.refl L.same) rfl)
theorem ev_some {x : α} (h : EV X Γ e x) : EV X Γ e (some x) := fun B F H σ Q L q => h B F H σ Q L fun v F' H' ex r => q v F' H' ex r
theorem ev_str (s : String) {k} : EV X Γ (.Constant (.str (Str.ofString s)) k pos) (tx s) := fun B F H σ Q L q => WE.of pe_str (q _ F H (Ext.refl L.same) (congrArg V.str (sx_tx s)))
theorem ev_gint {n : Str} {z : Int} {t : Tok} (hm : X.mg n = some (.int z t)) (hg : autoParam (Gl X n) aRfl) (hd : autoParam ((n == ("__debug__" : Str)) = false) aDec) : EV X Γ (.Name n pos) z := fun B F H σ Q L q =>
  WE.of (pe_glob (v := .int z) hg hm ⟨t, rfl⟩ hd) (q _ F H (Ext.refl L.same) rfl)
theorem ev_gstr {n : Str} (s : String) {t : Tok} (hm : X.mg n = some (.str (Str.ofString s) t)) (hg : autoParam (Gl X n) aRfl) (hd : autoParam ((n == ("__debug__" : Str)) = false) aDec) : EV X Γ (.Name n pos) (tx s) := fun B F H σ Q L q =>
  WE.of (pe_glob (v := .str (Str.ofString s)) hg hm ⟨t, rfl⟩ hd) (q _ F H (Ext.refl L.same) (congrArg V.str (sx_tx s)))
noncomputable def rW (X : Cx) (f : Value → Value → Sem Value) : R2 := fun x y H Q => ∀ pins s σ v u, Inv X pins σ H s → RelV x v → RelV y u → wpAny (model X.prog X.w) X.A (f v u) (EP X pins σ Q) X.xe s
theorem opW {f : Value → Value → Sem Value} : OpR X f (rW X f) := fun pins s σ H x y v u Q I r1 r2 h => h pins s σ v u I r1 r2
noncomputable def OB (X : Cx) (f : Value → Value → Sem Value) {α β γ : Type} [i : Rep α] [j : Rep β] [l : Rep γ] (x : α) (y : β) (z : γ) : Prop :=
  ∀ F H v u Q, Same F H → i.rp X.K F v x → j.rp X.K F u y → (∀ w F' H', Ext F H F' H' → l.rp X.K F' w z → Q w H') → rW X f v u H Q
theorem ob_flat {f : Value → Value → Sem Value} {x : α} {y : β} {z : γ} {r : R2} (o : OpR X f r)
    (h : ∀ F H v u Q, Same F H → i.rp X.K F v x → j.rp X.K F u y → (∀ w, l.rp X.K F w z → Q w H) → r v u H Q) : OB X f x y z :=
  fun F H v u Q s r1 r2 q pins s' σ v' u' I rv ru => o pins s' σ H v u v' u' Q I rv ru (h F H v u Q s r1 r2 fun w hw => q w F H (Ext.refl s) hw)
theorem ev_bin {op : Operator} {x : α} {y : β} {z : γ} (o : OB X (binaryOp op) x y z) (ha : EV X Γ a x) (hb : EV X Γ b y) : EV X Γ (.BinOp a op b pos) z := fun B F H σ Q L q =>
  WE.of (pe_op opW peW peW) (ha B F H σ _ L fun v F1 H1 e1 r1 => hb B F1 H1 σ _ (L.step e1) fun u F2 H2 e2 r2 =>
    o F2 H2 v u Q (L.step (e1.trans e2)).same (i.mono e2.ff r1) r2 fun w F3 H3 e3 r3 => q w F3 H3 ((e1.trans e2).trans e3) r3)
theorem ev_cmp {op : CmpOp} {x : α} {y : β} {z : Bool} (o : OB X (compareOp op) x y z) (ha : EV X Γ a x) (hb : EV X Γ b y) (hm : behindInMarks op b = false := by first | exact nomark _ | rfl) : EV X Γ (.Compare a [op] [b] pos) z := fun B F H σ Q L q =>
  WE.of (pe_cmpR opW peW peW hm) (ha B F H σ _ L fun v F1 H1 e1 r1 => hb B F1 H1 σ _ (L.step e1) fun u F2 H2 e2 r2 =>
    o F2 H2 v u Q (L.step (e1.trans e2)).same (i.mono e2.ff r1) r2 fun w F3 H3 e3 r3 => q w F3 H3 ((e1.trans e2).trans e3) r3)
theorem et_cmp {op : CmpOp} {x : α} {y : β} {z : Bool} (o : OB X (compareOp op) x y z) (ha : EV X Γ a x) (hb : EV X Γ b y) (hm : behindInMarks op b = false := by first | exact nomark _ | rfl) : ET X Γ (.Compare a [op] [b] pos) z := fun B F H σ Q L q =>
  WT.of (pt_cmpR opW peW peW hm) (ha B F H σ _ L fun v F1 H1 e1 r1 => hb B F1 H1 σ _ (L.step e1) fun u F2 H2 e2 r2 =>
    o F2 H2 v u _ (L.step (e1.trans e2)).same (i.mono e2.ff r1) r2 fun w F3 H3 e3 r3 => ⟨z, r3, q F3 H3 ((e1.trans e2).trans e3)⟩)
theorem ev_chain {op op' : CmpOp} {x : α} {y : β} {w : γ} {k k' : Bool} (o : OB X (compareOp op) x y k) (o' : k = true → OB X (compareOp op') y w k') (ha : EV X Γ a x) (hb : EV X Γ b y) (hc : k = true → EV X Γ c w)
    (hm : lastMarks [op, op'] [b, c] = false := by with_unfolding_all rfl) : EV X Γ (.Compare a [op, op'] [b, c] pos) (k && k') := fun B F H σ Q L q =>
  WE.of (pe_chain opW opW peW peW peW hm) (ha B F H σ _ L fun v F1 H1 e1 r1 => hb B F1 H1 σ _ (L.step e1) fun u F2 H2 e2 r2 =>
    o F2 H2 v u _ (L.step (e1.trans e2)).same (i.mono e2.ff r1) r2 fun z F3 H3 e3 r3 => ⟨k, r3, by
      have e123 := (e1.trans e2).trans e3
      cases k with
      | false => exact q _ F3 H3 e123 rfl
      | true => exact hc rfl B F3 H3 σ _ (L.step e123) fun t F4 H4 e4 r4 => o' rfl F4 H4 u t Q (L.step (e123.trans e4)).same (j.mono (e3.trans e4).ff r2) r4 fun w F5 H5 e5 r5 => q w F5 H5 ((e123.trans e4).trans e5) (by rw [Bool.true_and]; exact r5)⟩)
theorem et_chain {op op' : CmpOp} {x : α} {y : β} {w : γ} {k k' : Bool} (o : OB X (compareOp op) x y k) (o' : k = true → OB X (compareOp op') y w k') (ha : EV X Γ a x) (hb : EV X Γ b y) (hc : k = true → EV X Γ c w)
    (hm : lastMarks [op, op'] [b, c] = false := by with_unfolding_all rfl) : ET X Γ (.Compare a [op, op'] [b, c] pos) (k && k') := fun B F H σ Q L q =>
  WT.of (pt_chain opW opW peW peW peW hm) (ha B F H σ _ L fun v F1 H1 e1 r1 => hb B F1 H1 σ _ (L.step e1) fun u F2 H2 e2 r2 =>
    o F2 H2 v u _ (L.step (e1.trans e2)).same (i.mono e2.ff r1) r2 fun z F3 H3 e3 r3 => ⟨k, r3, by
      have e123 := (e1.trans e2).trans e3
      cases k with
      | false => exact ⟨false, rfl, q F3 H3 e123⟩
      | true => exact hc rfl B F3 H3 σ _ (L.step e123) fun t F4 H4 e4 r4 => o' rfl F4 H4 u t _ (L.step (e123.trans e4)).same (j.mono (e3.trans e4).ff r2) r4 fun w F5 H5 e5 r5 => ⟨k', r5, by rw [Bool.true_and] at q; exact q F5 H5 ((e123.trans e4).trans e5)⟩⟩)
theorem ob_I {f : Value → Value → Sem Value} {C : Int → Int → Prop} {g : Int → Int → Int} {x y : Int} (o : OpR X f (rI C fun i j => .int (g i j))) (h : C x y) : OB X f x y (g x y) :=
  ob_flat o fun F H v u Q s r1 r2 q => ⟨x, y, r1, r2, h, q _ rfl⟩
theorem ob_I0 {f : Value → Value → Sem Value} {g : Int → Int → Int} {x y : Int} (o : OpR X f (rI0 fun i j => .int (g i j))) : OB X f x y (g x y) :=
  ob_flat o fun F H v u Q s r1 r2 q => ⟨x, y, r1, r2, q _ rfl⟩
theorem ob_B0 {f : Value → Value → Sem Value} {g : Int → Int → Bool} {x y : Int} (o : OpR X f (rI0 fun i j => .bl (g i j))) : OB X f x y (g x y) :=
  ob_flat o fun F H v u Q s r1 r2 q => ⟨x, y, r1, r2, q _ rfl⟩
theorem o_add {x y : Int} : OB X (binaryOp .Add) x y (x + y) := ob_I0 op_add
theorem o_sub {x y : Int} : OB X (binaryOp .Sub) x y (x - y) := ob_I0 op_sub
theorem o_mul {x y : Int} (h : CMul x y) : OB X (binaryOp .Mult) x y (x * y) := ob_I op_mul h
theorem o_mod {x y : Int} (h : 0 < y) : OB X (binaryOp .Mod) x y (x % y) := ob_I op_mod h
theorem o_div {x y : Int} (h : CDivW x y) : OB X (binaryOp .FloorDiv) x y (x / y) := ob_I op_fdivW h
theorem o_lt {x y : Int} : OB X (compareOp .Lt) x y (decide (x < y)) := ob_B0 op_lt
theorem o_le {x y : Int} : OB X (compareOp .LtE) x y (decide (x ≤ y)) := ob_B0 op_le
theorem o_gt {x y : Int} : OB X (compareOp .Gt) x y (decide (y < x)) := ob_B0 op_gt
theorem o_eq {x y : Int} : OB X (compareOp .Eq) x y (decide (x = y)) := ob_flat op_eq fun F H v u Q s r1 r2 q => by
  obtain rfl : v = .int x := r1
  obtain rfl : u = .int y := r2
  exact ⟨rfl, q _ (show V.bl _ = V.bl _ by rw [dec_int, Bool.beq_eq_decide_eq])⟩
theorem o_ne {x y : Int} : OB X (compareOp .NotEq) x y (!decide (x = y)) := ob_flat op_ne fun F H v u Q s r1 r2 q => by
  obtain rfl : v = .int x := r1
  obtain rfl : u = .int y := r2
  exact ⟨rfl, q _ (show V.bl _ = V.bl _ by rw [dec_int, Bool.beq_eq_decide_eq])⟩
theorem dec_sx {x y : Tx} : decide (V.str (sx x) = V.str (sx y)) = decide (x = y) := by
  by_cases h : x = y
  · subst h; rw [decide_eq_true rfl, decide_eq_true rfl]
  · rw [decide_eq_false h, decide_eq_false fun z => h (sx_inj (V.str.inj z))]
theorem o_eqS {x y : Tx} : OB X (compareOp .Eq) x y (decide (x = y)) := ob_flat op_eq fun F H v u Q s r1 r2 q => by
  obtain rfl : v = .str (sx x) := r1
  obtain rfl : u = .str (sx y) := r2
  exact ⟨rfl, q _ (show V.bl _ = V.bl _ by rw [dec_sx])⟩
theorem o_neS {x y : Tx} : OB X (compareOp .NotEq) x y (!decide (x = y)) := ob_flat op_ne fun F H v u Q s r1 r2 q => by
  obtain rfl : v = .str (sx x) := r1
  obtain rfl : u = .str (sx y) := r2
  exact ⟨rfl, q _ (show V.bl _ = V.bl _ by rw [dec_sx])⟩
theorem o_addS {x y : Tx} (h : x.length + y.length ≤ sizeLine) : OB X (binaryOp .Add) x y (x ++ y) := ob_flat op_add_str fun F H v u Q s r1 r2 q => by
  obtain rfl : v = .str (sx x) := r1
  obtain rfl : u = .str (sx y) := r2
  exact ⟨_, _, rfl, rfl, by rw [sx_len, sx_len]; exact h, q _ (by rw [sx_app]; rfl)⟩
theorem ev_neg {x : Int} (h : EV X Γ a x) : EV X Γ (.UnaryOp .USub a pos) (-x) := fun B F H σ Q L q =>
  WE.of (pe_un un_neg peW) (h B F H σ _ L fun v F1 H1 e1 r1 => ⟨x, r1, q _ F1 H1 e1 rfl⟩)
theorem et_not {k : Bool} (h : ET X Γ a k) : ET X Γ (.UnaryOp .Not a pos) (!k) := fun B F H σ Q L q =>
  WT.of (pt_not ptW) (h B F H σ _ L fun F1 H1 e1 => q F1 H1 e1)
theorem ev_not {k : Bool} (h : EV X Γ a k) : EV X Γ (.UnaryOp .Not a pos) (!k) := fun B F H σ Q L q =>
  WE.of (pe_not peW) (h B F H σ _ L fun v F1 H1 e1 r1 => ⟨k, r1, q _ F1 H1 e1 rfl⟩)
structure WW (X : Cx) (e : Expr) (σ : L2.St) (H : Hp) (Q : Bool → Hp → Prop) : Prop where
  go : ∀ whole pins s, Inv X pins σ H s → wpAny (model X.prog X.w) X.A (isTrue e X.env whole) (TP X pins σ Q) X.xe s
theorem pwW : PW X e (WW X e) := ⟨fun whole pins s _ _ _ I h => h.go whole pins s I⟩
noncomputable def EW (X : Cx) (Γ : List Slot) (e : Expr) (k : Bool) : Prop := ∀ B F H σ Q, Lc X.K B F H σ Γ → (∀ F' H', Ext F H F' H' → Q k H') → WW X e σ H Q
theorem WW.of {t : TT} {σ : L2.St} {H : Hp} {Q : Bool → Hp → Prop} (p : PW X e t) (h : t σ H Q) : WW X e σ H Q := ⟨fun whole pins s I => p.run whole pins s σ H Q I h⟩
theorem et_w {k : Bool} (h : EW X Γ e k) : ET X Γ e k := fun B F H σ Q L q => WT.of (PW.pt pwW) (h B F H σ Q L q)
theorem ew_and1 {k : Bool} (h : ET X Γ a k) : EW X Γ (.BoolOp .And [a] pos) k := fun B F H σ Q L q => WW.of (pw_and1 ptW) (h B F H σ Q L q)
theorem ew_or1 {k : Bool} (h : ET X Γ a k) : EW X Γ (.BoolOp .Or [a] pos) k := fun B F H σ Q L q => WW.of (pw_or1 ptW) (h B F H σ Q L q)
theorem ew_and {k m : Bool} (ha : ET X Γ a k) (hb : k = true → EW X Γ (.BoolOp .And (b :: es) pos) m) : EW X Γ (.BoolOp .And (a :: b :: es) pos) (k && m) := fun B F H σ Q L q =>
  WW.of (pw_and ptW pwW) (ha B F H σ _ L fun F1 H1 e1 => by
    cases k with
    | true => exact hb rfl B F1 H1 σ Q (L.step e1) fun F2 H2 e2 => by rw [Bool.true_and] at q; exact q F2 H2 (e1.trans e2)
    | false => exact q F1 H1 e1)
theorem ew_or {k m : Bool} (ha : ET X Γ a k) (hb : k = false → EW X Γ (.BoolOp .Or (b :: es) pos) m) : EW X Γ (.BoolOp .Or (a :: b :: es) pos) (k || m) := fun B F H σ Q L q =>
  WW.of (pw_or ptW pwW) (ha B F H σ _ L fun F1 H1 e1 => by
    cases k with
    | false => exact hb rfl B F1 H1 σ Q (L.step e1) fun F2 H2 e2 => by rw [Bool.false_or] at q; exact q F2 H2 (e1.trans e2)
    | true => exact q F1 H1 e1)
theorem et_and {k m : Bool} (ha : ET X Γ a k) (hb : k = true → ET X Γ b m) : ET X Γ (.BoolOp .And [a, b] pos) (k && m) := et_w (ew_and ha fun h => ew_and1 (hb h))
theorem et_or {k m : Bool} (ha : ET X Γ a k) (hb : k = false → ET X Γ b m) : ET X Γ (.BoolOp .Or [a, b] pos) (k || m) := et_w (ew_or ha fun h => ew_or1 (hb h))
theorem et_and3 {k m n : Bool} (ha : ET X Γ a k) (hb : k = true → ET X Γ b m) (hc : k = true → m = true → ET X Γ c n) : ET X Γ (.BoolOp .And [a, b, c] pos) (k && (m && n)) := et_w (ew_and ha fun h => ew_and (hb h) fun h2 => ew_and1 (hc h h2))
theorem et_or3 {k m n : Bool} (ha : ET X Γ a k) (hb : k = false → ET X Γ b m) (hc : k = false → m = false → ET X Γ c n) : ET X Γ (.BoolOp .Or [a, b, c] pos) (k || (m || n)) := et_w (ew_or ha fun h => ew_or (hb h) fun h2 => ew_or1 (hc h h2))
theorem ev_one {op} {x : α} (h : EV X Γ a x) : EV X Γ (.BoolOp op [a] pos) x := fun B F H σ Q L q => WE.of (pe_one peW) (h B F H σ Q L q)
theorem ev_and {k m : Bool} (ha : EV X Γ a k) (hb : k = true → EV X Γ (.BoolOp .And (b :: es) pos) m) : EV X Γ (.BoolOp .And (a :: b :: es) pos) (k && m) := fun B F H σ Q L q =>
  WE.of (pe_and peW peW) (ha B F H σ _ L fun v F1 H1 e1 r1 => ⟨k, r1, by
    cases k with
    | true => exact hb rfl B F1 H1 σ Q (L.step e1) fun v F2 H2 e2 r2 => by rw [Bool.true_and] at q; exact q v F2 H2 (e1.trans e2) r2
    | false => exact q _ F1 H1 e1 rfl⟩)
theorem ev_or {k m : Bool} (ha : EV X Γ a k) (hb : k = false → EV X Γ (.BoolOp .Or (b :: es) pos) m) : EV X Γ (.BoolOp .Or (a :: b :: es) pos) (k || m) := fun B F H σ Q L q =>
  WE.of (pe_or peW peW) (ha B F H σ _ L fun v F1 H1 e1 r1 => ⟨k, r1, by
    cases k with
    | false => exact hb rfl B F1 H1 σ Q (L.step e1) fun v F2 H2 e2 r2 => by rw [Bool.false_or] at q; exact q v F2 H2 (e1.trans e2) r2
    | true => exact q _ F1 H1 e1 rfl⟩)
theorem ev_and2 {k m : Bool} (ha : EV X Γ a k) (hb : k = true → EV X Γ b m) : EV X Γ (.BoolOp .And [a, b] pos) (k && m) := ev_and ha fun h => ev_one (hb h)
theorem ev_or2 {k m : Bool} (ha : EV X Γ a k) (hb : k = false → EV X Γ b m) : EV X Γ (.BoolOp .Or [a, b] pos) (k || m) := ev_or ha fun h => ev_one (hb h)
theorem ea_nil : EA X Γ [] [] := fun B F H σ Q L q => WA.of pa_nil (q [] F H (Ext.refl L.same) trivial)
theorem ea_cons {x : α} {A : List Slot} (h : EV X Γ e x) (hr : EA X Γ es A) (hs : autoParam (starEach (e :: es) X.env = (false, eval e X.env) :: starEach es X.env) aStar) : EA X Γ (e :: es) (.val i x :: A) := fun B F H σ Q L q =>
  WA.of (pa_cons peW paW hs) (h B F H σ _ L fun v F1 H1 e1 r1 => hr B F1 H1 σ _ (L.step e1) fun vs F2 H2 e2 r2 => q (v :: vs) F2 H2 (e1.trans e2) ⟨i.mono e2.ff r1, r2⟩)
noncomputable def EAs (X : Cx) (Γ : List Slot) (es : List Expr) {α : Type} [i : Rep α] (xs : List α) : Prop :=
  ∀ B F H σ Q, Lc X.K B F H σ Γ → (∀ vs F' H', Ext F H F' H' → Paired (fun u x => i.rp X.K F' u x) vs xs → Q vs H') → WA X es σ H Q
theorem es_nil : EAs X Γ [] ([] : List α) := fun B F H σ Q L q => WA.of pa_nil (q [] F H (Ext.refl L.same) .nil)
theorem es_cons {x : α} {xs : List α} (h : EV X Γ e x) (hr : EAs X Γ es xs) (hs : autoParam (starEach (e :: es) X.env = (false, eval e X.env) :: starEach es X.env) aStar) : EAs X Γ (e :: es) (x :: xs) := fun B F H σ Q L q =>
  WA.of (pa_cons peW paW hs) (h B F H σ _ L fun v F1 H1 e1 r1 => hr B F1 H1 σ _ (L.step e1) fun vs F2 H2 e2 r2 => q (v :: vs) F2 H2 (e1.trans e2) (.cons (i.mono e2.ff r1) r2))
theorem en_lst {xs : List α} (h : EAs X Γ es xs) (hz : xs.length ≤ sizeLine := by exact sl_small (by simp)) : EN X Γ (.List es pos) xs := fun B F H σ Q L q =>
  WE.of (pe_lst paW) (h B F H σ _ L fun vs F1 H1 e1 r1 => ⟨by rw [Paired.length r1]; exact hz, fun p hp => by
    have s1 := (L.step e1).same
    have ea := Ext.apart (o := .lst vs) s1 hp
    exact q p vs F1 _ (e1.trans ea) (e1.hs.free hp) (s1.free hp) upd_same r1⟩)
theorem ev_tupH {x1} {xs : List α} (h : EAs X Γ es xs) (hz : xs.length ≤ sizeLine := by exact sl_small (by simp)) : EV X Γ (.Tuple es x1 pos) (Tup.mk xs) := fun B F H σ Q L q =>
  WE.of (pe_tup paW) (h B F H σ _ L fun vs F1 H1 e1 r1 => ⟨by rw [Paired.length r1]; exact hz, fun p hp => by
    have s1 := (L.step e1).same
    have ea := Ext.new (o := .tup vs) s1 hp
    exact q (.ref p) _ _ (e1.trans ea) ⟨p, vs, rfl, upd_same, Paired.mapP r1 fun _ _ z => i.mono ea.ff z⟩⟩)
theorem ev_pair {x1} {x : α} {y : β} (ha : EV X Γ a x) (hb : EV X Γ b y) (hs : autoParam (starEach [a, b] X.env = (false, eval a X.env) :: starEach [b] X.env) aStar) (hs2 : autoParam (starEach [b] X.env = (false, eval b X.env) :: starEach [] X.env) aStar) : EV X Γ (.Tuple [a, b] x1 pos) (x, y) := fun B F H σ Q L q =>
  WE.of (pe_tup paW) (ea_cons ha (ea_cons hb ea_nil hs2) hs B F H σ _ L fun vs F1 H1 e1 r1 => by
    match vs, r1 with
    | [v, u], ⟨h1, h2, _⟩ =>
      exact ⟨by show 2 ≤ sizeLine; decide, fun p hp => by
        have s1 := (L.step e1).same
        have ea := Ext.new (o := .tup [v, u]) s1 hp
        exact q (.ref p) _ _ (e1.trans ea) ⟨p, v, u, rfl, upd_same, i.mono ea.ff h1, j.mono ea.ff h2⟩⟩)
theorem sq_of {K : PySem.W.Frag} {F H : Hp} (s : Same F H) {a : Addr} {vs : List V} (h : F a = some (.lst vs)) : SqL K H a vs := .inl (.inl (s _ _ h))
theorem st_of {K : PySem.W.Frag} {F H : Hp} (s : Same F H) {a : Addr} {vs : List V} (h : F a = some (.tup vs)) : SqT K H a vs := .inl (.inl (s _ _ h))
theorem ev_callB1 {n : Str} {id : String} {x : α} {z : β} {r : List V → Hp → VK → Prop} (hc : CallR X (.builtin id) r) (hm : X.mg n = none) (hv : bootBuiltins n = some (.builtin id)) (h : EV X Γ e x)
    (hr : ∀ F H v Q, Same F H → i.rp X.K F v x → (∀ w F' H', Ext F H F' H' → j.rp X.K F' w z → Q w H') → r [v] H Q) (hg : autoParam (Gl X n) aRfl) (hn : autoParam (n ≠ "__name__") aDec) (hd : autoParam ((n == ("__debug__" : Str)) = false) aDec)
    (hs : autoParam (starEach [e] X.env = (false, eval e X.env) :: starEach [] X.env) aStar) (hpl : autoParam ((backTo pos (starEach [] X.env)).any (·.1) = false) aPl) : EV X Γ (.Call (.Name n p) [e] [] pos) z := fun B F H σ Q L q =>
  WE.of (pe_callB hc hg hm hv (pa_cons peW pa_nil hs) hn hd hs hpl) (h B F H σ _ L fun v F1 H1 e1 r1 => hr F1 H1 v Q (L.step e1).same r1 fun w F2 H2 e2 r2 => q w F2 H2 (e1.trans e2) r2)
theorem ev_callT1 {n : Str} {id : String} {x : α} {z : β} {r : List V → Hp → VK → Prop} (hc : CallR X (.type id) r) (hm : X.mg n = none) (hv : bootBuiltins n = some (.type id)) (h : EV X Γ e x)
    (hr : ∀ F H v Q, Same F H → i.rp X.K F v x → (∀ w F' H', Ext F H F' H' → j.rp X.K F' w z → Q w H') → r [v] H Q) (hg : autoParam (Gl X n) aRfl) (hn : autoParam (n ≠ "__name__") aDec) (hd : autoParam ((n == ("__debug__" : Str)) = false) aDec)
    (hs : autoParam (starEach [e] X.env = (false, eval e X.env) :: starEach [] X.env) aStar) (hpl : autoParam ((backTo pos (starEach [] X.env)).any (·.1) = false) aPl) : EV X Γ (.Call (.Name n p) [e] [] pos) z := fun B F H σ Q L q =>
  WE.of (pe_callTy hc hg hm hv (pa_cons peW pa_nil hs) hn hd hs hpl) (h B F H σ _ L fun v F1 H1 e1 r1 => hr F1 H1 v Q (L.step e1).same r1 fun w F2 H2 e2 r2 => q w F2 H2 (e1.trans e2) r2)
theorem ev_len {xs : List α} (hm : X.mg "len" = none) (h : EV X Γ e xs) (hg : autoParam (Gl X "len") aRfl) (hs : autoParam (starEach [e] X.env = (false, eval e X.env) :: starEach [] X.env) aStar) (hpl : autoParam ((backTo pos (starEach [] X.env)).any (·.1) = false) aPl) :
    EV X Γ (.Call (.Name "len" p) [e] [] pos) (xs.length : Int) :=
  ev_callB1 call_len_seq hm PySem.boot_len h (fun F H v Q s r q => by
    obtain ⟨a, vs, rfl, ha, pr⟩ := r
    exact ⟨a, vs, rfl, .inl (sq_of s ha), q _ F H (Ext.refl s) (by rw [Paired.length pr]; rfl)⟩) hg (by decide) (by decide) hs hpl
theorem ev_lenScr {xs : Scr} (hm : X.mg "len" = none) (h : EV X Γ e xs) (hg : autoParam (Gl X "len") aRfl) (hs : autoParam (starEach [e] X.env = (false, eval e X.env) :: starEach [] X.env) aStar) (hpl : autoParam ((backTo pos (starEach [] X.env)).any (·.1) = false) aPl) :
    EV X Γ (.Call (.Name "len" p) [e] [] pos) (xs.l.length : Int) :=
  ev_callB1 call_len_seq hm PySem.boot_len h (fun F H v Q s r q => by
    obtain ⟨a, rfl, ha⟩ := r
    exact ⟨a, _, rfl, .inl (s.seq ha), q _ F H (Ext.refl s) (by rw [List.length_map]; rfl)⟩) hg (by decide) (by decide) hs hpl
theorem ev_lenS {x : Tx} (hm : X.mg "len" = none) (h : EV X Γ e x) (hz : x.length ≤ sizeLine) (hg : autoParam (Gl X "len") aRfl) (hs : autoParam (starEach [e] X.env = (false, eval e X.env) :: starEach [] X.env) aStar) (hpl : autoParam ((backTo pos (starEach [] X.env)).any (·.1) = false) aPl) :
    EV X Γ (.Call (.Name "len" p) [e] [] pos) (x.length : Int) :=
  ev_callB1 call_len_str hm PySem.boot_len h (fun F H v Q s r q => ⟨sx x, by rw [show v = V.str (sx x) from r], by rw [sx_len]; exact hz, q _ F H (Ext.refl s) (by rw [sx_len]; rfl)⟩) hg (by decide) (by decide) hs hpl
theorem ev_ixL {xs : List α} {n : Int} {x : α} (ha : EV X Γ a xs) (hb : EV X Γ b n) (hx : atI xs n = some x) (hp : autoParam (PlainIx b) Tw.aIR2) : EV X Γ (.Subscript a b pos) x := fun B F H σ Q L q =>
  WE.of (pe_ix ix_list peW peW hp) (ha B F H σ _ L fun v F1 H1 e1 r1 => hb B F1 H1 σ _ (L.step e1) fun u F2 H2 e2 r2 => by
    obtain ⟨ad, vs, rfl, h1, pr⟩ := r1
    obtain ⟨k, hk, hx⟩ := Option.bind_eq_some_iff.mp hx
    obtain ⟨w, hw, rw'⟩ := pgetL pr hx
    have s2 := (L.step (e1.trans e2)).same
    exact ⟨ad, vs, n, w, rfl, r2, sq_of s2 (e2.ff _ _ h1), by unfold atI; rw [Paired.length pr, hk]; exact hw, q w F2 H2 (e1.trans e2) (i.mono e2.ff rw')⟩)
theorem ev_ixT {xs : Tup α} {n : Int} {x : α} (ha : EV X Γ a xs) (hb : EV X Γ b n) (hx : atI xs.l n = some x) (hp : autoParam (PlainIx b) Tw.aIR2) : EV X Γ (.Subscript a b pos) x := fun B F H σ Q L q =>
  WE.of (pe_ix ix_tup peW peW hp) (ha B F H σ _ L fun v F1 H1 e1 r1 => hb B F1 H1 σ _ (L.step e1) fun u F2 H2 e2 r2 => by
    obtain ⟨ad, vs, rfl, h1, pr⟩ := r1
    obtain ⟨k, hk, hx⟩ := Option.bind_eq_some_iff.mp hx
    obtain ⟨w, hw, rw'⟩ := pgetL pr hx
    have s2 := (L.step (e1.trans e2)).same
    exact ⟨ad, vs, n, w, rfl, r2, st_of s2 (e2.ff _ _ h1), by unfold atI; rw [Paired.length pr, hk]; exact hw, q w F2 H2 (e1.trans e2) (i.mono e2.ff rw')⟩)
theorem ev_ixScr {xs : Scr} {n : Int} {x : Int} (ha : EV X Γ a xs) (hb : EV X Γ b n) (hx : atI xs.l n = some x) (hp : autoParam (PlainIx b) Tw.aIR2) : EV X Γ (.Subscript a b pos) x := fun B F H σ Q L q =>
  WE.of (pe_ix ix_list peW peW hp) (ha B F H σ _ L fun v F1 H1 e1 r1 => hb B F1 H1 σ _ (L.step e1) fun u F2 H2 e2 r2 => by
    obtain ⟨ad, rfl, h1⟩ := r1
    obtain ⟨k, hk, hx⟩ := Option.bind_eq_some_iff.mp hx
    have s2 := (L.step (e1.trans e2)).same
    exact ⟨ad, _, n, .int x, rfl, r2, s2.seq (e2.ff.seq h1), by unfold atI; rw [List.length_map, hk]; show (xs.l.map V.int)[k]? = _; rw [List.getElem?_map, hx]; rfl, q _ F2 H2 (e1.trans e2) rfl⟩)
theorem ev_ixS {x : Tx} {n : Int} {z : Nat} (ha : EV X Γ a x) (hb : EV X Γ b n) (hx : atI x n = some z) (hz : x.length ≤ sizeLine) (hp : autoParam (PlainIx b) Tw.aIR2) : EV X Γ (.Subscript a b pos) ([z] : Tx) := fun B F H σ Q L q =>
  WE.of (pe_ix ix_str peW peW hp) (ha B F H σ _ L fun v F1 H1 e1 r1 => hb B F1 H1 σ _ (L.step e1) fun u F2 H2 e2 r2 =>
    ⟨sx x, n, z, r1, r2, by rw [sx_len]; exact hz, hx, q _ F2 H2 (e1.trans e2) rfl⟩)
noncomputable def EO (X : Cx) (Γ : List Slot) (e : Option Expr) (o : Option Int) : Prop := match e, o with
  | none, none => True
  | some e, some n => EV X Γ e n
  | _, _ => False
noncomputable def WO (X : Cx) (e : Option Expr) (Γ : List Slot) : TO := match e with
  | none => tNoPart
  | some e => tPart (WE X e)
theorem poW {e : Option Expr} : PO X e (WO X e Γ) := by
  cases e with
  | none => exact po_none
  | some e => exact po_some peW
theorem eo_run {e : Option Expr} {o : Option Int} (h : EO X Γ e o) {B : Bs} {F H : Hp} {σ : L2.St} {Q : Option Int → Hp → Prop} (L : Lc X.K B F H σ Γ) (q : ∀ F' H', Ext F H F' H' → Q o H') : WO X e Γ σ H Q := by
  cases e with
  | none =>
    cases o with
    | none => exact q F H (Ext.refl L.same)
    | some n => exact h.elim
  | some e =>
    cases o with
    | none => exact h.elim
    | some n => exact h B F H σ _ L fun v F1 H1 e1 r1 => ⟨n, r1, q F1 H1 e1⟩
noncomputable def cutL {A : Type} (xs : List A) (lo hi : Option Int) : List A := (xs.drop (HT.sIx xs.length 0 lo)).take (HT.sIx xs.length xs.length hi - HT.sIx xs.length 0 lo)
theorem en_sliceL {p2 : Pos} {lo hi : Option Expr} {o1 o2 : Option Int} {xs : List α} (ha : EV X Γ a xs) (hl : EO X Γ lo o1) (hh : EO X Γ hi o2) : EN X Γ (.Subscript a (.Slice lo hi none p2) pos) (cutL xs o1 o2) := fun B F H σ Q L q =>
  WE.of (pe_slice sl_list peW (poW (Γ := Γ)) (poW (Γ := Γ))) (ha B F H σ _ L fun v F1 H1 e1 r1 => eo_run hl (L.step e1) fun F2 H2 e2 => eo_run hh (L.step (e1.trans e2)) fun F3 H3 e3 => by
    obtain ⟨ad, vs, rfl, h1, pr⟩ := r1
    have e123 := (e1.trans e2).trans e3
    have s3 := (L.step e123).same
    have e23 := e2.trans e3
    refine ⟨ad, vs, rfl, sq_of s3 (e23.ff _ _ h1), fun p hp => ?_⟩
    refine q p _ F3 _ (e123.trans (Ext.apart s3 hp)) (e123.hs.free hp) (s3.free hp) upd_same ?_
    unfold cutV cutL
    rw [Paired.length pr]
    exact ptake _ (pdrop _ (Paired.mapP pr fun _ _ z => i.mono e23.ff z)))
theorem ev_sliceS {p2 : Pos} {lo hi : Option Expr} {o1 o2 : Option Int} {x : Tx} (ha : EV X Γ a x) (hl : EO X Γ lo o1) (hh : EO X Γ hi o2) (hz : x.length ≤ sizeLine) : EV X Γ (.Subscript a (.Slice lo hi none p2) pos) (cutL x o1 o2) := fun B F H σ Q L q =>
  WE.of (pe_slice sl_str peW (poW (Γ := Γ)) (poW (Γ := Γ))) (ha B F H σ _ L fun v F1 H1 e1 r1 => eo_run hl (L.step e1) fun F2 H2 e2 => eo_run hh (L.step (e1.trans e2)) fun F3 H3 e3 =>
    ⟨sx x, r1, by rw [sx_len]; exact hz, q _ F3 H3 ((e1.trans e2).trans e3) (congrArg V.str (by
      unfold cutS cutL
      rw [sx_len]
      rfl))⟩)
end
end Tw
namespace Tw
open PySem PySem.Spec PyProof.Rows L2 TL
section
variable {X : Cx} {Γ : List Slot} {α β γ : Type} {i : Rep α} {j : Rep β} {l : Rep γ} {pos p : Pos} {e a b c : Expr} {es : List Expr} {E : SE} {rest body : List Stmt}
theorem ED.seq {B : Bs} {F0 : Hp} {D : Ends} (ed : ED X B F0 E D) : ED X B F0 { E with nx := fun Γ' => ST X rest Γ' E } { D with nx := fun σ' H' => WP X rest D σ' H' } :=
  ⟨fun F H σ Γ s h L => h B F H σ D L (ed.weak s), ed.rt, ed.bk, ed.ct, ed.ex⟩
theorem st_nil (h : E.nx Γ) : ST X [] Γ E := fun B F H σ D L ed => WP.of pss_nil (ed.nx F H σ Γ (Same.refl F) h L)
theorem st_set (k : Nat) {n : Str} {x : α} (he : EV X Γ e x) (hr : ST X rest (Γ.set k (.val i x)) E) (hN : X.N.Nodup) (hi : autoParam (X.N[k]? = some n) aRfl) (hx : autoParam (L2.Loc X.env.scope n) aLoc)
    (hs : autoParam (swapsWith e (some (.Name n p)) pos.line X.env = pure false) aRfl) (hf : autoParam (X.fn n = true ∨ X.env.scope.names.lookup n = some .local) Tw.aFn) : ST X (.Assign [.Name n p] e pos :: rest) Γ E := fun B F H σ D L ed =>
  WP.cons (ps_set hN hi hx peW hs hf) (he B F H σ _ L fun v F1 H1 e1 r1 => hr B F1 H1 _ D ((L.step e1).putV k r1) (ed.weak e1.ff))
theorem st_setN (k : Nat) {n : Str} {xs : List α} (he : EN X Γ e xs) (hr : ∀ ad, ST X rest (Γ.set k (.lst i ad xs)) E) (hN : X.N.Nodup) (hi : autoParam (X.N[k]? = some n) aRfl) (hx : autoParam (L2.Loc X.env.scope n) aLoc)
    (hs : autoParam (swapsWith e (some (.Name n p)) pos.line X.env = pure false) aRfl) (hf : autoParam (X.fn n = true ∨ X.env.scope.names.lookup n = some .local) Tw.aFn) : ST X (.Assign [.Name n p] e pos :: rest) Γ E := fun B F H σ D L ed =>
  WP.cons (ps_set hN hi hx peW hs hf) (he B F H σ _ L fun ad vs F1 H1 e1 ha fa h1 pr => hr ad B F1 H1 _ D (L.putL k e1 ha fa h1 pr) (ed.weak e1.ff))
theorem st_ret {P : Ret → Prop} (he : EX X Γ e P) (hP : ∀ r, P r → E.rt r) : ST X (.Return (some e) pos :: rest) Γ E := fun B F H σ D L ed =>
  WP.cons (ps_ret peW) (he B F H σ _ L fun r v F1 H1 hr e1 ok => ed.rt r v F1 H1 (hP r hr) (L.step e1).ext (ok.imp fun b h => L.nw h))
theorem st_retV {x : α} (he : EV X Γ e x) (hP : E.rt (.val i x)) : ST X (.Return (some e) pos :: rest) Γ E := st_ret (P := fun r => r = .val i x) (ex_of_ev he rfl) fun r h => h ▸ hP
theorem st_retE {xs : List α} (he : EN X Γ e xs) (hP : E.rt (.new i xs)) : ST X (.Return (some e) pos :: rest) Γ E := st_ret (P := fun r => r = .new i xs) (ex_of_en he rfl) fun r h => h ▸ hP
theorem st_retL (k : Nat) {n : Str} {ad : Addr} {xs : List α} (hP : E.rt (.new i xs)) (hN : autoParam (X.N[k]? = some n) aRfl) (hv : autoParam (Vis X.env.scope n) aVis) (hd : autoParam ((n == ("__debug__" : Str)) = false) aDec)
    (hcd : autoParam ((n == ("__classdict__" : Str)) = false) aDec) (hg : autoParam (Γ[k]? = some (.lst i ad xs)) aRfl) : ST X (.Return (some (.Name n p)) pos :: rest) Γ E := fun B F H σ D L ed => by
  obtain ⟨vs, ea, fa, ba, ha, pr⟩ := slot_lst L hg
  exact WP.cons (ps_ret (pe_var hN hv hd hcd)) ⟨_, ea, ed.rt _ _ F H hP L.ext ⟨ad, vs, rfl, ba, fa, ha, pr⟩⟩
theorem st_if {k : Bool} {A C : List Stmt} (hc : ET X Γ c k) (hA : k = true → ST X A Γ { E with nx := fun Γ' => ST X rest Γ' E }) (hC : k = false → ST X C Γ { E with nx := fun Γ' => ST X rest Γ' E }) : ST X (.If c A C pos :: rest) Γ E := fun B F H σ D L ed =>
  WP.cons (ps_if ptW psW psW) (hc B F H σ _ L fun F1 H1 e1 => by
    cases k with
    | true => exact hA rfl B F1 H1 σ _ (L.step e1) ((ed.weak e1.ff).seq)
    | false => exact hC rfl B F1 H1 σ _ (L.step e1) ((ed.weak e1.ff).seq))
theorem st_drop {P : Ret → Prop} (he : EX X Γ e P) (hr : ST X rest Γ E) (hs : autoParam (swapsWith e none pos.line X.env = pure false) aRfl) : ST X (.Expr e pos :: rest) Γ E := fun B F H σ D L ed =>
  WP.cons (ps_expr peW hs) (he B F H σ _ L fun r v F1 H1 _ e1 _ => hr B F1 H1 σ D (L.step e1) (ed.weak e1.ff))
theorem st_append (k : Nat) {n : Str} {ad : Addr} {xs : List α} {x : α} {apos cpos : Pos} (he : EV X Γ e x) (hr : ST X rest (Γ.set k (.lst i ad (xs ++ [x]))) E) (hz : xs.length < sizeLine) (hg : autoParam (Γ[k]? = some (.lst i ad xs)) aRfl) (hN : autoParam (X.N[k]? = some n) aRfl)
    (hv : autoParam (Vis X.env.scope n) aVis) (hd : autoParam ((n == ("__debug__" : Str)) = false) aDec) (hcd : autoParam ((n == ("__classdict__" : Str)) = false) aDec)
    (hbase : autoParam (attributeBase (.Name n p) "append" X.env (eval (.Name n p) X.env) = eval (.Name n p) X.env) aRfl)
    (hfew : autoParam (((backTo cpos (starEach [e] X.env)).all (fun x => !x.1) && (backToKw cpos (keywordEach [] X.env)).all (fun x => x.1.isSome) && decide ([e].length + ([] : List Keyword).length + (if ([] : List Keyword).isEmpty then 0 else 1) < 30)) = true) aRfl)
    (hline : autoParam ((apos.endLine == cpos.line) = true) aRfl) (hs : autoParam (starEach [e] X.env = (false, eval e X.env) :: starEach [] X.env) aStar) (hplain : autoParam ((backTo cpos (starEach [] X.env)).any (·.1) = false) aRfl)
    (hsw : autoParam (swapsWith (.Call (.Attribute (.Name n p) "append" apos) [e] [] cpos) none pos.line X.env = pure false) aRfl) :
    ST X (.Expr (.Call (.Attribute (.Name n p) "append" apos) [e] [] cpos) pos :: rest) Γ E := fun B F H σ D L ed => by
  obtain ⟨vs, ea, fa, ba, ha, pr⟩ := slot_lst L hg
  refine WP.cons (ps_expr (pe_bm PySem.F.plainAttrs_list PySem.F.slot_list_append PySem.F.type_list_append mt_append (pe_var hN hv hd hcd) (pa_cons peW pa_nil hs) hbase hfew hline hs hplain) hsw) ?_
  refine ⟨_, ea, .inl ⟨rfl, _, .inl (.inl ha)⟩, he B F H σ _ L fun v F1 H1 e1 r1 => ?_⟩
  have L1 := L.step e1
  obtain ⟨vs1, _, _, _, ha1, pr1⟩ := slot_lst L1 hg
  refine ⟨ad, vs1, v, rfl, rfl, ha1, by rw [Paired.length pr1]; exact hz, ?_⟩
  exact hr B F1 _ σ D (L1.updL hg (papp pr1 (.cons r1 .nil))) (ed.weak e1.ff)
noncomputable def Yields (K : PySem.W.Frag) (J : It) (F1 : Hp) {α : Type} [i : Rep α] (xs : List α) : Prop :=
  ∀ F2 H2, Same F1 F2 → Same F2 H2 → (∀ (k : Nat) x, xs[k]? = some x → J.go k H2 ∧ ∀ v H3, J.yld k H2 v H3 → ∃ F3, Ext F2 H2 F3 H3 ∧ i.rp K F3 v x) ∧ J.stop xs.length H2
noncomputable def Src (X : Cx) (Γ : List Slot) (tg it : Expr) {α : Type} [i : Rep α] (xs : List α) : Prop :=
  ∃ wi, PI X tg it wi ∧ ∀ B F H σ R, Lc X.K B F H σ Γ → (∀ J F1 H1, Ext F H F1 H1 → Yields X.K J F1 xs → R J H1) → wi σ H R
variable {tg it : Expr}
theorem src_list {xs : List α} (h : EV X Γ it xs) : Src X Γ tg it xs := ⟨_, pi_list peW, fun B F H σ R L q => h B F H σ _ L fun v F1 H1 e1 r1 => by
  obtain ⟨ad, vs, rfl, ha, pr⟩ := r1
  refine ⟨ad, rfl, ⟨vs, sq_of (L.step e1).same ha⟩, q _ F1 H1 e1 fun F2 H2 s1 s2 => ⟨fun k x hx => ?_, vs, sq_of s2 (s1 _ _ ha), by rw [Paired.length pr]; exact Nat.le_refl _⟩⟩
  obtain ⟨w, hw, rw'⟩ := pgetL pr hx
  refine ⟨⟨vs, w, sq_of s2 (s1 _ _ ha), hw⟩, fun v H3 hy => ?_⟩
  obtain ⟨rfl, hy⟩ := hy
  have : v = w := Option.some.inj ((hy vs (sq_of s2 (s1 _ _ ha))).symm.trans hw)
  subst this
  exact ⟨F2, Ext.refl s2, i.mono s1 rw'⟩⟩
theorem src_str {x : Tx} (h : EV X Γ it x) : Src X Γ tg it (x.map fun c => ([c] : Tx)) := ⟨_, pi_str peW, fun B F H σ R L q => h B F H σ _ L fun v F1 H1 e1 r1 => by
  obtain rfl : v = .str (sx x) := r1
  refine ⟨sx x, rfl, q _ F1 H1 e1 fun F2 H2 s1 s2 => ⟨fun k y hy => ?_, by show x.toArray.size ≤ _; simp⟩⟩
  have hk : k < x.length := by have := (List.getElem?_eq_some_iff.mp hy).1; simpa using this
  refine ⟨by show k < x.toArray.size; simpa using hk, fun v H3 hv => ?_⟩
  obtain ⟨rfl, c, hc, rfl⟩ := hv
  refine ⟨F2, Ext.refl s2, ?_⟩
  rw [List.getElem?_map] at hy
  have hc' : x[k]? = some c := by simpa [sx] using hc
  rw [hc'] at hy
  obtain rfl : ([c] : Tx) = y := Option.some.inj hy
  rfl⟩
noncomputable def rng (lo : Int) (n : Nat) : List Int := (List.range n).map fun (k : Nat) => lo + (k : Int)
theorem rng_get {lo : Int} {n k : Nat} {x : Int} (h : (rng lo n)[k]? = some x) : k < n ∧ x = lo + k := by
  unfold rng at h
  rw [List.getElem?_map] at h
  by_cases hk : k < n
  · rw [List.getElem?_range hk] at h
    exact ⟨hk, (Option.some.inj h).symm⟩
  · rw [List.getElem?_eq_none (by simpa using hk)] at h; cases h
theorem rng_len {lo : Int} {n : Nat} : (rng lo n).length = n := by unfold rng; simp
theorem yields_rng {K : PySem.W.Frag} {F1 : Hp} {lo : Int} {n : Nat} : Yields K (Itr lo n) F1 (rng lo n) := fun F2 H2 s1 s2 => ⟨fun k x hx => by
  obtain ⟨hk, rfl⟩ := rng_get hx
  exact ⟨hk, fun v H3 hy => by obtain ⟨rfl, rfl⟩ := hy; exact ⟨F2, Ext.refl s2, rfl⟩⟩, by show n ≤ _; rw [rng_len]; exact Nat.le_refl _⟩
theorem src_range {n : Int} {p2 : Pos} (hm : X.mg "range" = none) (h : EV X Γ it n) (h1 : -(2 ^ 62) ≤ n) (h2 : n < 2 ^ 62) (hg : autoParam (Gl X "range") aRfl) (hs : autoParam (starEach [it] X.env = [(false, eval it X.env)]) aStar) : Src X Γ tg (.Call (.Name "range" p) [it] [] p2) (rng 0 n.toNat) :=
  ⟨_, pi_range1 hg hm (pa_cons peW pa_nil hs) hs, fun B F H σ R L q => h B F H σ _ L fun v F1 H1 e1 r1 => by
    obtain rfl : v = .int n := r1
    exact ⟨n, rfl, h1, h2, q _ F1 H1 e1 yields_rng⟩⟩
theorem src_range2 {m n : Int} {p2 : Pos} (hm : X.mg "range" = none) (ha : EV X Γ a m) (hb : EV X Γ b n) (h : -(2 ^ 62) ≤ m ∧ m < 2 ^ 62 ∧ -(2 ^ 62) ≤ n ∧ n < 2 ^ 62) (hg : autoParam (Gl X "range") aRfl)
    (hs : autoParam (starEach [a, b] X.env = [(false, eval a X.env), (false, eval b X.env)]) aStar) (hs2 : autoParam (starEach [b] X.env = [(false, eval b X.env)]) aStar) : Src X Γ tg (.Call (.Name "range" p) [a, b] [] p2) (rng m (n - m).toNat) :=
  ⟨_, pi_range2 hg hm (pa_cons peW (pa_cons peW pa_nil hs2) (by rw [hs, hs2])) hs hs2, fun B F H σ R L q => ha B F H σ _ L fun v F1 H1 e1 r1 => hb B F1 H1 σ _ (L.step e1) fun u F2 H2 e2 r2 => by
    obtain rfl : v = .int m := r1
    obtain rfl : u = .int n := r2
    exact ⟨m, n, rfl, h, q _ F2 H2 (e1.trans e2) yields_rng⟩⟩
theorem wipe_get {σ : L2.St} {k : Nat} : ∀ vs : List Nat, (wipe σ vs)[k]? = if k ∈ vs then (σ[k]?).map (fun _ => none) else σ[k]?
  | [] => by simp [wipe]
  | v :: vs => by
    unfold wipe
    by_cases h : v = k
    · subst h
      rw [if_pos (List.mem_cons_self ..), List.getElem?_set]
      rw [if_pos rfl]
      by_cases hl : v < σ.length
      · rw [if_pos (by rw [wipe_length]; exact hl), List.getElem?_eq_getElem hl]; rfl
      · rw [if_neg (by rw [wipe_length]; exact hl), List.getElem?_eq_none (by omega)]; rfl
    · rw [List.getElem?_set_ne h, wipe_get vs]
      have : (k ∈ v :: vs) ↔ k ∈ vs := by simp [Ne.symm h]
      simp only [this]
theorem wipe_wipe (σ : L2.St) (vs : List Nat) : wipe (wipe σ vs) vs = wipe σ vs := by
  refine List.ext_getElem? fun k => ?_
  rw [wipe_get, wipe_get]
  split
  · cases σ[k]? <;> rfl
  · rfl
noncomputable def wipeS (Γ : List Slot) : List Nat → List Slot
  | [] => Γ
  | v :: vs => (wipeS Γ vs).set v .no
theorem Lc.wipe {K : PySem.W.Frag} {B : Bs} {F H : Hp} {σ : L2.St} {Γ : List Slot} (L : Lc K B F H σ Γ) : ∀ vs : List Nat, Lc K B F H (L2.wipe σ vs) (wipeS Γ vs)
  | [] => L
  | v :: vs => (L.wipe vs).putN v none
structure Tg (K : PySem.W.Frag) (g : TG) {α : Type} [i : Rep α] (bind : α → List Slot → List Slot) (vs : List Nat) : Prop where
  run : ∀ B F H σ Γ v x Q, Lc K B F H σ Γ → i.rp K F v x → (∀ σ2, Lc K B F H σ2 (bind x Γ) → wipe σ2 vs = wipe σ vs → Q σ2 H) → g v σ H Q
theorem tg_name {K : PySem.W.Frag} (k : Nat) : Tg K (gName k) (fun (x : α) Γ => Γ.set k (.val i x)) [k] := ⟨fun B F H σ Γ v x Q L r q => q _ (L.putV k r) (by show (σ.set k (some v)).set k none = σ.set k none; rw [List.set_set])⟩
theorem tg_pair {K : PySem.W.Frag} (k m : Nat) (hkm : k ≠ m) : Tg K (gTup K 2 (gCons (gName k) (gCons (gName m) gNil))) (fun (x : α × β) Γ => (Γ.set k (.val i x.1)).set m (.val j x.2)) [k, m] := ⟨fun B F H σ Γ v x Q L r q => by
  obtain ⟨ad, u, w, rfl, ha, r1, r2⟩ := r
  refine ⟨ad, [u, w], rfl, st_of L.same ha, rfl, u, [w], rfl, w, [], rfl, rfl, q _ ((L.putV k r1).putV m r2) ?_⟩
  show ((((σ.set k (some u)).set m (some w)).set m none).set k none) = (σ.set m none).set k none
  rw [List.set_set, List.set_comm _ _ hkm, List.set_set]⟩
theorem st_for {xs : List α} {bind : α → List Slot → List Slot} {vs : List Nat} {g : TG} (P : Nat → List Slot → Prop) (hS : Src X Γ tg it xs) (hT : Tg X.K g bind vs) (h0 : P 0 Γ)
    (hb : ∀ (k : Nat) x Γ', xs[k]? = some x → P k Γ' → ST X body (bind x Γ') { nx := P (k + 1), ct := P (k + 1), bk := fun Γ2 => ST X rest Γ2 E, rt := E.rt, ex := E.ex })
    (hd : ∀ Γ', P xs.length Γ' → ST X rest Γ' E) (hg : PG X tg g) (hp : autoParam (PassesOwn (model X.prog X.w) X.A X.env X.xe) Tw.aPass) (hc : autoParam (X.calm = true) aRfl) (hs : autoParam (∀ x, foldedSetIterable it X.env x = pure x) Tw.aIR1) :
    ST X (.For tg it body [] pos :: rest) Γ E := fun B F H σ D L ed => by
  obtain ⟨wi, hi, run⟩ := hS
  refine WP.cons (ps_for hp hc hi hg psW hs) (run B F H σ _ L fun J F1 H1 e1 Y => ?_)
  have L1 := L.step e1
  refine ⟨fun t m σ H => m = xs.length - t ∧ t ≤ xs.length ∧ ∃ F2 Γ', P t Γ' ∧ Same F1 F2 ∧ Lc X.K B F2 H σ Γ', ⟨xs.length, rfl, Nat.zero_le _, F1, Γ, h0, Same.refl _, L1⟩, ?_⟩
  rintro t m σ H ⟨rfl, ht, F2, Γ', hP, s12, L2⟩
  have Y2 := Y F2 H s12 L2.same
  by_cases hlt : t < xs.length
  · have hx : xs[t]? = some xs[t] := List.getElem?_eq_getElem hlt
    obtain ⟨go, yl⟩ := Y2.1 t _ hx
    refine .inr ⟨go, fun σ' H' => ∃ F3 Γ3, P (t + 1) Γ3 ∧ Same F1 F3 ∧ Lc X.K B F3 H' σ' Γ3, fun σ' H' h => ⟨xs.length - (t + 1), by omega, rfl, hlt, h⟩, fun v H3 hy => ?_⟩
    obtain ⟨F3, e3, r3⟩ := yl v H3 hy
    refine hT.run B F3 H3 σ Γ' v _ _ (L2.step e3) r3 fun σ2 L4 _ => ?_
    refine hb t _ Γ' hx hP B F3 H3 σ2 _ L4 ⟨fun F5 H5 σ5 Γ5 s5 h5 L5 => ?_, ed.rt, fun F5 H5 σ5 Γ5 s5 h5 L5 => h5 B F5 H5 σ5 D L5 (ed.weak (e1.ff.trans (s12.trans (e3.ff.trans s5)))), fun F5 H5 σ5 Γ5 s5 h5 L5 => ?_, fun F5 H5 σ5 Γ5 x u d s5 h5 L5 => ed.ex F5 H5 σ5 Γ5 x u d (e1.ff.trans (s12.trans (e3.ff.trans s5))) h5 L5⟩
    · exact ⟨F5, Γ5, h5, s12.trans (e3.ff.trans s5), L5⟩
    · exact ⟨F5, Γ5, h5, s12.trans (e3.ff.trans s5), L5⟩
  · have et : t = xs.length := by omega
    subst et
    exact .inl ⟨Y2.2, hd Γ' hP B F2 H σ D L2 (ed.weak (e1.ff.trans s12))⟩
end
end Tw
namespace Tw
open PySem PySem.Spec PyProof.Rows L2 TL
section
variable {X : Cx} {Γ : List Slot} {α β γ : Type} {i : Rep α} {j : Rep β} {l : Rep γ} {pos p : Pos} {e a b c elt tg it : Expr} {es : List Expr} {E : SE} {rest body : List Stmt}
noncomputable abbrev Blk (X : Cx) (scope : Scope) (s : Shared) (H : Hp) (C : Addr) (cl : List (Str × Addr)) (fp : List Addr) : Cx := X.blk s H scope (compEnvC scope cl C X.env) fp
noncomputable def tBlkE (X : Cx) (scope : Scope) (e : Expr) : TE := fun σ H Q => ∀ s H0 C cl fp, WE (Blk X scope s H0 C cl fp) e σ H Q
noncomputable def tBlkT (X : Cx) (scope : Scope) (e : Expr) : TT := fun σ H Q => ∀ s H0 C cl fp, WT (Blk X scope s H0 C cl fp) e σ H Q
theorem lc_run {scope : Scope} {xs : List α} {f : α → β} {q : α → Bool} {bind : α → List Slot → List Slot} {vs : List Nat} {g : TG} {tt : TT} {wi : TI} {B : Bs} {F H : Hp} {σ : L2.St} {Q : VK} (L : Lc X.K B F H σ Γ)
    (run : ∀ R, (∀ J F1 H1, Ext F H F1 H1 → Yields X.K J F1 xs → R J H1) → wi σ H R) (hT : Tg X.K g bind vs)
    (ht : ∀ x ∈ xs, ∀ B F H σ R, Lc X.K B F H σ (bind x (wipeS Γ vs)) → (∀ F' H', Ext F H F' H' → R (q x) H') → tt σ H R)
    (he : ∀ x ∈ xs, q x = true → ∀ s H C cl fp, EV (Blk X scope s H C cl fp) (bind x (wipeS Γ vs)) elt (f x)) (hz : xs.length ≤ sizeLine)
    (k : ∀ a vs F' H', Ext F H F' H' → H a = none → F' a = none → H' a = some (.lst vs) → Paired (fun u x => j.rp X.K F' u x) vs ((xs.filter q).map f) → Q (.ref a) H') : tLc wi g tt (tBlkE X scope elt) vs σ H Q := by
  refine run _ fun J F1 H1 e1 Y D hD => ?_
  have L1 := L.step e1
  refine ⟨fun t m H' => m = xs.length - t ∧ t ≤ xs.length ∧ ∃ F2 acc, Ext F1 H1 F2 H' ∧ F2 D = none ∧ H' D = some (.lst acc) ∧ acc.length ≤ t ∧ Paired (fun u x => j.rp X.K F2 u x) acc (((xs.take t).filter q).map f),
    ⟨xs.length, rfl, Nat.zero_le _, F1, [], Ext.apart L1.same hD, L1.same.free hD, upd_same, Nat.le_refl _, .nil⟩, ?_⟩
  rintro t m H2 ⟨rfl, ht', F2, acc, e2, fD, hD2, hl, pr⟩
  have Y2 := Y F2 H2 e2.ff e2.fh
  by_cases hlt : t < xs.length
  · have hx : xs[t]? = some xs[t] := List.getElem?_eq_getElem hlt
    have hmem : xs[t] ∈ xs := List.getElem_mem hlt
    obtain ⟨go, yl⟩ := Y2.1 t _ hx
    refine .inr ⟨go, fun H' => ∃ F3 acc, Ext F1 H1 F3 H' ∧ F3 D = none ∧ H' D = some (.lst acc) ∧ acc.length ≤ t + 1 ∧ Paired (fun u x => j.rp X.K F3 u x) acc (((xs.take (t + 1)).filter q).map f), fun H' h => ⟨xs.length - (t + 1), by omega, rfl, hlt, h⟩, fun v H3 hy => ?_⟩
    obtain ⟨F3, e3, r3⟩ := yl v H3 hy
    have L3 := ((L1.step e2).wipe vs).step e3
    refine hT.run B F3 H3 _ _ v _ _ L3 r3 fun σ2 L4 hw => ⟨by rw [hw, wipe_wipe], ?_⟩
    refine ht _ hmem B F3 H3 σ2 _ L4 fun F4 H4 e4 => ?_
    have e34 := e3.trans e4
    have fD4 : F4 D = none := e34.nw D fD (by rw [hD2]; exact fun z => nomatch z)
    have etake : xs.take (t + 1) = xs.take t ++ [xs[t]] := by rw [List.take_add_one, hx]; rfl
    by_cases hq : q xs[t] = true
    · rw [if_pos hq]
      intro s H0 C cl fp
      refine he _ hmem hq s H0 C cl fp B F4 H4 σ2 _ (L4.step e4) fun w F5 H5 e5 r5 => ?_
      have e345 := e34.trans e5
      have hD5 : H5 D = some (.lst acc) := e345.hs _ _ hD2
      have fD5 : F5 D = none := e345.nw D fD (by rw [hD2]; exact fun z => nomatch z)
      have e25 := e2.trans e345
      refine ⟨acc, hD5, by omega, F5, acc ++ [w], ⟨e25.ff, same_upd e25.fh fD5, fun b o nb ob => ?_, e25.nwM, fun _ z => z.elim⟩, fD5, upd_same, by simp; exact hl, ?_⟩
      · rw [upd_ne (ne_of_none ob hD)]; exact e25.hh b o nb ob
      · rw [etake, List.filter_append, List.map_append]
        have : ([xs[t]].filter q).map f = [f xs[t]] := by rw [List.filter_cons_of_pos hq]; rfl
        rw [this]
        exact papp (Paired.mapP pr fun _ _ z => j.mono e345.ff z) (.cons r5 .nil)
    · rw [if_neg hq]
      refine ⟨F4, acc, e2.trans e34, fD4, e34.hs _ _ hD2, by omega, ?_⟩
      rw [etake, List.filter_append, List.map_append]
      have : ([xs[t]].filter q).map f = [] := by rw [List.filter_cons_of_neg hq]; rfl
      rw [this, List.append_nil]
      exact Paired.mapP pr fun _ _ z => j.mono e34.ff z
  · have et : t = xs.length := by omega
    subst et
    refine .inl ⟨Y2.2, k D acc F2 H2 (e1.trans e2) (e1.hs.free hD) fD hD2 ?_⟩
    rw [List.take_length] at pr
    exact pr
theorem filter_yes {A : Type} (xs : List A) : xs.filter (fun _ => true) = xs := List.filter_eq_self.mpr fun _ _ => rfl
theorem en_lc {scope : Scope} {own : List (Str × Nat)} {xs : List α} {f : α → β} {bind : α → List Slot → List Slot} {g : TG} (hS : Src X Γ tg it xs) (hT : Tg X.K g bind (own.map (·.2))) (hg : ∀ s H C cl fp, PG (Blk X scope s H C cl fp) tg g)
    (he : ∀ x ∈ xs, ∀ s H C cl fp, EV (Blk X scope s H C cl fp) (bind x (wipeS Γ (own.map (·.2)))) elt (f x)) (hN : X.N.Nodup) (ok : BlkOk X.N X.env.scope scope own := by exact blkOk_by (by decide +kernel)) (hz : xs.length ≤ sizeLine)
    (hc : autoParam (X.calm = true) aRfl) (hs : autoParam (∀ x, foldedSetIterable it X.env x = pure x) Tw.aIR1) : EN X Γ (.ListComp elt [⟨tg, it, [], 0⟩] scope pos) (xs.map f) := fun B F H σ Q L k => by
  obtain ⟨wi, hi, run⟩ := hS
  refine WE.of (pe_lc (te := tBlkE X scope elt) hc hN hi ok hg (fun _ _ _ _ _ => pts_nil) (fun s H C cl fp => ⟨fun pins s' σ H' Q' I h => (h s H C cl fp).go pins s' I⟩) hs) ?_
  refine lc_run (q := fun _ => true) L (fun R => run B F H σ R L) hT (fun x _ B F H σ R L h => h F H (Ext.refl L.same)) (fun x hx _ => he x hx) hz fun a vs F' H' e1 ha fa h' pr => k a vs F' H' e1 ha fa h' ?_
  rw [filter_yes] at pr
  exact pr
theorem en_lcIf {scope : Scope} {own : List (Str × Nat)} {xs : List α} {f : α → β} {q : α → Bool} {bind : α → List Slot → List Slot} {g : TG} (hS : Src X Γ tg it xs) (hT : Tg X.K g bind (own.map (·.2))) (hg : ∀ s H C cl fp, PG (Blk X scope s H C cl fp) tg g)
    (ht : ∀ x ∈ xs, ∀ s H C cl fp, ET (Blk X scope s H C cl fp) (bind x (wipeS Γ (own.map (·.2)))) c (q x))
    (he : ∀ x ∈ xs, q x = true → ∀ s H C cl fp, EV (Blk X scope s H C cl fp) (bind x (wipeS Γ (own.map (·.2)))) elt (f x)) (hN : X.N.Nodup) (ok : BlkOk X.N X.env.scope scope own := by exact blkOk_by (by decide +kernel)) (hz : xs.length ≤ sizeLine)
    (hc : autoParam (X.calm = true) aRfl) (hs : autoParam (∀ x, foldedSetIterable it X.env x = pure x) Tw.aIR1) : EN X Γ (.ListComp elt [⟨tg, it, [c], 0⟩] scope pos) ((xs.filter q).map f) := fun B F H σ Q L k => by
  obtain ⟨wi, hi, run⟩ := hS
  refine WE.of (pe_lc (te := tBlkE X scope elt) (tt := tBlkT X scope c) hc hN hi ok hg (fun s H C cl fp => pts_one ⟨fun pins s' σ H' Q' I h => (h s H C cl fp).go pins s' I⟩) (fun s H C cl fp => ⟨fun pins s' σ H' Q' I h => (h s H C cl fp).go pins s' I⟩) hs) ?_
  exact lc_run L (fun R => run B F H σ R L) hT (fun x hx B F H σ R L h => fun s H0 C cl fp => ht x hx s H0 C cl fp B F H σ R L h) he hz k
theorem ev_join {o : Expr} {sep : Tx} {xs : List Tx} {apos : Pos} (ho : EV X Γ o sep) (h : EV X Γ e xs) (hz : (xs.map (·.length)).sum + xs.length * sep.length ≤ 16777216) (hs : autoParam (starEach [e] X.env = [(false, eval e X.env)]) aStar)
    (hbase : autoParam (attributeBase o "join" X.env (eval o X.env) = eval o X.env) aRfl) (hline : autoParam ((apos.endLine == pos.line) = true) aRfl) : EV X Γ (.Call (.Attribute o "join" apos) [e] [] pos) (joinL sep xs) := fun B F H σ Q L q =>
  WE.of (pe_join peW peW hs hbase hline) (ho B F H σ _ L fun v F1 H1 e1 r1 => ⟨⟨_, r1⟩, h B F1 H1 σ _ (L.step e1) fun u F2 H2 e2 r2 => by
    obtain ⟨ad, vs, rfl, ha, pr⟩ := r2
    have s2 := (L.step (e1.trans e2)).same
    refine ⟨sx sep, ad, xs.map sx, r1, rfl, .inl (by rw [← Rps.strs pr]; exact sq_of s2 ha), ?_, q _ F2 H2 (e1.trans e2) (congrArg V.str ?_)⟩
    · rw [List.map_map, List.length_map, sx_len]
      have : ((fun y : Str => y.length) ∘ sx) = (fun x : Tx => x.length) := funext fun x => sx_len x
      rw [this]; exact hz
    · rw [join_eq]
      refine ext_tl ?_
      rw [tl_join, List.map_map]
      have : (tl ∘ sx) = (id : Tx → Tx) := funext fun x => tl_sx x
      rw [this, List.map_id]
      rfl⟩)
theorem joinL_one {x : Tx} : joinL [] (x.map fun c => ([c] : Tx)) = x := by
  have : ∀ (y : List Tx), joinL [] y = y.flatten := by
    intro y
    induction y with
    | nil => rfl
    | cons a r ih =>
      cases r with
      | nil => simp [joinL]
      | cons b r => rw [joinL, ih]; simp
  rw [this]
  induction x with
  | nil => rfl
  | cons a r ih => rw [List.map_cons, List.flatten_cons, ih]; rfl
theorem en_list {xs : List α} (hm : X.mg "list" = none) (h : EV X Γ e xs) (hg : autoParam (Gl X "list") aRfl) (hs : autoParam (starEach [e] X.env = (false, eval e X.env) :: starEach [] X.env) aStar) (hpl : autoParam ((backTo pos (starEach [] X.env)).any (·.1) = false) aPl) :
    EN X Γ (.Call (.Name "list" p) [e] [] pos) xs := fun B F H σ Q L q =>
  WE.of (pe_callTy call_list_of hg hm (by decide +kernel) (pa_cons peW pa_nil hs) (by decide) (by decide) hs hpl) (h B F H σ _ L fun v F1 H1 e1 r1 => by
    obtain ⟨ad, vs, rfl, ha, pr⟩ := r1
    have s1 := (L.step e1).same
    exact ⟨ad, vs, rfl, .inl (sq_of s1 ha), fun q' hq => q q' vs F1 _ (e1.trans (Ext.apart s1 hq)) (e1.hs.free hq) (s1.free hq) upd_same pr⟩)
class Flat (α : Type) [i : Rep α] : Prop where
  fl : ∀ {K F F' v} {x : α}, i.rp K F v x → i.rp K F' v x
noncomputable instance : Flat Int := ⟨fun h => h⟩
noncomputable instance : Flat Bool := ⟨fun h => h⟩
noncomputable instance : Flat Unit := ⟨fun h => h⟩
noncomputable instance : Flat (List Nat) := ⟨fun h => h⟩
noncomputable def frz (F H : Hp) (ps : List Addr) : Hp := fun b => if b ∈ ps then H b else F b
theorem frz_in {F H : Hp} {ps : List Addr} {b : Addr} (h : b ∈ ps) : frz F H ps b = H b := if_pos h
theorem frz_out {F H : Hp} {ps : List Addr} {b : Addr} (h : b ∉ ps) : frz F H ps b = F b := if_neg h
theorem frz_le {F H : Hp} {ps : List Addr} (f : ∀ b ∈ ps, F b = none) : Same F (frz F H ps) := fun b u e => by
  rw [frz_out (fun hb => by rw [f b hb] at e; cases e)]; exact e
theorem frz_same {F H : Hp} {ps : List Addr} (s : Same F H) : Same (frz F H ps) H := fun b u e => by
  by_cases hb : b ∈ ps
  · rw [frz_in hb] at e; exact e
  · rw [frz_out hb] at e; exact s _ _ e
noncomputable def Froz (o : Own) {α : Type} [i : Rep α] (x : α) : Prop := ∀ {K : PySem.W.Frag} {F H : Hp} {v : V}, Same F H → o.ok K F H v → (∀ b ∈ o.fp, F b = none) → i.rp K (frz F H o.fp) v x
theorem frozL {a : Addr} {xs : List α} : Froz (ownL i a xs) xs := fun {K F H v} s ⟨e, vs, h, p⟩ f => ⟨a, vs, e, (frz_in (ps := [a]) (List.mem_singleton.mpr rfl)).trans h, Paired.mapP p fun _ _ q => i.mono (frz_le f) q⟩
theorem Lc.lendO {K : PySem.W.Frag} {B : Bs} {F H : Hp} {σ : L2.St} {k : Nat} {o : Own} {x : α} (L : Lc K B F H σ Γ) (hk : Γ[k]? = some (.own o)) (hx : Froz o x) :
    Lc K ⟨frz F H o.fp, H, fun _ => True⟩ (frz F H o.fp) H σ (Γ.set k (.val i x)) ∧ ∀ b ∈ o.fp, F b = none := by
  obtain ⟨v, ev, ok, f⟩ := slot_own L hk
  have f0 : ∀ b ∈ o.fp, F b = none := fun b hb => (f b hb).1
  refine ⟨⟨⟨Same.refl _, frz_same L.same, fun _ _ n => absurd trivial n, fun _ _ h _ => h, fun _ _ h => h⟩, by simp [L.len], fun q t hq => ?_, L.ap.put k rfl⟩, f0⟩
  rcases get_set_slot hq with ⟨e1, e2, rfl⟩ | ⟨e1, hq'⟩
  · subst e1
    rw [ev]
    exact ⟨v, rfl, hx L.same ok f0⟩
  · have old := L.ok q t hq'
    cases t with
    | no => trivial
    | val i x => obtain ⟨v, e2, r⟩ := old; exact ⟨v, e2, i.mono (frz_le f0) r⟩
    | own o2 =>
      obtain ⟨u, eu, ok2, f2⟩ := old
      exact ⟨u, eu, o2.stay (frz_le f0) (fun _ _ _ h => h) ok2, fun b hb => ⟨by rw [frz_out (fun hb2 => L.ap k q o o2 e1 hk hq' b hb2 hb)]; exact (f2 b hb).1, .inr trivial⟩⟩
theorem lend_back {F H F' H' : Hp} {ps : List Addr} (s : Same F H) (e : Ext (frz F H ps) H F' H') : Ext F H F H' := ⟨Same.refl F, s.trans e.hs, e.hh, fun _ _ h _ => h, fun _ z => z.elim⟩
theorem ev_lendO (k : Nat) {o : Own} {x : α} {y : β} [Flat β] (hx : Froz o x) (h : EV X (Γ.set k (.val i x)) e y) (hk : autoParam (Γ[k]? = some (.own o)) aRfl) : EV X Γ e y := fun B F H σ Q L q => by
  obtain ⟨L', fa⟩ := L.lendO hk hx
  exact h _ _ H σ Q L' fun v F' H' ex r => q v F H' (lend_back L.same ex) (Flat.fl r)
theorem et_lendO (k : Nat) {o : Own} {x : α} {y : Bool} (hx : Froz o x) (h : ET X (Γ.set k (.val i x)) e y) (hk : autoParam (Γ[k]? = some (.own o)) aRfl) : ET X Γ e y := fun B F H σ Q L q => by
  obtain ⟨L', fa⟩ := L.lendO hk hx
  exact h _ _ H σ Q L' fun F' H' ex => q F H' (lend_back L.same ex)
theorem en_lendO (k : Nat) {o : Own} {x : α} {ys : List β} [Flat β] (hx : Froz o x) (h : EN X (Γ.set k (.val i x)) e ys) (hk : autoParam (Γ[k]? = some (.own o)) aRfl) : EN X Γ e ys := fun B F H σ Q L q => by
  obtain ⟨L', fa⟩ := L.lendO hk hx
  exact h _ _ H σ Q L' fun a vs F' H' ex ha f2 h' pr => q a vs F H' (lend_back L.same ex) ha (L.same.free ha) h' (Paired.mapP pr fun _ _ z => Flat.fl z)
theorem ev_lend (k : Nat) {ad : Addr} {xs : List α} {y : β} [Flat β] (h : EV X (Γ.set k (.val repList xs)) e y) (hk : autoParam (Γ[k]? = some (.lst i ad xs)) aRfl) : EV X Γ e y := ev_lendO k frozL h hk
theorem et_lend (k : Nat) {ad : Addr} {xs : List α} {y : Bool} (h : ET X (Γ.set k (.val repList xs)) e y) (hk : autoParam (Γ[k]? = some (.lst i ad xs)) aRfl) : ET X Γ e y := et_lendO k frozL h hk
theorem ex_call {n : Str} {k : Nat} {ps : List Str} {S : Spec} {A : List Slot} {P : Ret → Prop} (G : Has X.prog X.w X.K X.mg X.base k n ps S) (hr : Room k X.A) (ha : EA X Γ (e :: es) A)
    (hS : ∀ P' R', (∀ r, P r → P' r) → S A P' R') (hg : autoParam (Gl X n) aRfl) (hd : autoParam ((n == ("__debug__" : Str)) = false) aDec)
    (he : autoParam (starEach (e :: es) X.env = (false, eval e X.env) :: starEach es X.env) aStar) (hpl : autoParam ((backTo pos (starEach es X.env)).any (·.1) = false) aPl) : EX X Γ (.Call (.Name n p) (e :: es) [] pos) P := fun B F H σ Q L q => by
  obtain ⟨f, fd, hm, hk, hb, G⟩ := G.ex
  refine WE.of (pe_call G hr hg hm hk hb .nil passLm paW hd he hpl) (ha B F H σ _ L fun vs F1 H1 e1 r1 => ?_)
  rw [List.append_nil]
  exact ⟨F1, A, (L.step e1).same, r1.toO, r1.apart, hS _ _ fun r hr v F2 H2 e2 ok => q r v F2 H2 hr (e1.thenM e2 fun _ m => (r1.ma m).elim) (ok.imp fun b h => e1.hs.free (h.elim id fun m => (r1.ma m).elim))⟩
theorem ev_call {n : Str} {k : Nat} {ps : List Str} {S : Spec} {A : List Slot} {x : α} (G : Has X.prog X.w X.K X.mg X.base k n ps S) (hr : Room k X.A) (ha : EA X Γ (e :: es) A) (hS : ∀ P R, P (.val i x) → S A P R) (hg : autoParam (Gl X n) aRfl) (hd : autoParam ((n == ("__debug__" : Str)) = false) aDec)
    (he : autoParam (starEach (e :: es) X.env = (false, eval e X.env) :: starEach es X.env) aStar) (hpl : autoParam ((backTo pos (starEach es X.env)).any (·.1) = false) aPl) : EV X Γ (.Call (.Name n p) (e :: es) [] pos) x :=
  ev_of_ex (ex_call G hr ha (fun P' R' h => hS P' R' (h _ rfl)) hg hd he hpl)
theorem en_call {n : Str} {k : Nat} {ps : List Str} {S : Spec} {A : List Slot} {xs : List α} (G : Has X.prog X.w X.K X.mg X.base k n ps S) (hr : Room k X.A) (ha : EA X Γ (e :: es) A) (hS : ∀ P R, P (.new i xs) → S A P R) (hg : autoParam (Gl X n) aRfl) (hd : autoParam ((n == ("__debug__" : Str)) = false) aDec)
    (he : autoParam (starEach (e :: es) X.env = (false, eval e X.env) :: starEach es X.env) aStar) (hpl : autoParam ((backTo pos (starEach es X.env)).any (·.1) = false) aPl) : EN X Γ (.Call (.Name n p) (e :: es) [] pos) xs :=
  en_of_ex (ex_call G hr ha (fun P' R' h => hS P' R' (h _ rfl)) hg hd he hpl)
end
section
variable {P : Program} {w : World} {K : PySem.W.Frag} {mg : Str → Option Value} {base : Heap}
structure Df (K : PySem.W.Frag) (mg : Str → Option Value) (n : Str) (st : Stmt) (ps : List Str) : Prop where
  ex : ∃ f fd, Fun K n n st f fd ∧ Binds K fd ps [] ∧ mg n = some (.ref f)
theorem lc_start {F H : Hp} (s : Same F H) : ∀ {vs : List V} {A : List Slot} (r : VsOkO K F H vs A) (ap : Apart A) (n : Nat), Lc K ⟨F, H, MA A⟩ F H (vs.map some ++ List.replicate n none) (A ++ List.replicate n .no) := by
  intro vs A r ap n
  have key : ∀ {vs : List V} {A A0 : List Slot}, VsOkO K F H vs A → (∀ s ∈ A, s ∈ A0) → ∀ (k : Nat) t, (A ++ List.replicate n Slot.no)[k]? = some t → SlotOk K ⟨F, H, MA A0⟩ F H ((vs.map some ++ List.replicate n none)[k]?).join t := by
    intro vs A
    induction A generalizing vs with
    | nil =>
      intro A0 r _ k t h
      rw [List.nil_append, List.getElem?_replicate] at h
      split at h
      · cases h; exact trivial
      · cases h
    | cons a A ih =>
      intro A0 r hm k t h
      cases vs with
      | nil => cases a <;> exact r.elim
      | cons v vs =>
        cases a with
        | no => exact r.elim
        | own o =>
          cases k with
          | zero =>
            simp at h
            subst h
            exact ⟨v, rfl, r.1, fun b hb => ⟨r.2.1 b hb, .inr ⟨o, hm _ (List.mem_cons_self ..), hb⟩⟩⟩
          | succ k => exact ih r.2.2 (fun s hs => hm s (List.mem_cons_of_mem _ hs)) k t (by simpa using h)
        | val i x =>
          cases k with
          | zero =>
            simp at h
            subst h
            exact ⟨v, rfl, r.1⟩
          | succ k => exact ih r.2 (fun s hs => hm s (List.mem_cons_of_mem _ hs)) k t (by simpa using h)
  have inA : ∀ {k : Nat} {o : Own}, (A ++ List.replicate n Slot.no)[k]? = some (.own o) → A[k]? = some (.own o) := fun {k o} h => by
    by_cases hk : k < A.length
    · rw [List.getElem?_append_left hk] at h; exact h
    · rw [List.getElem?_append_right (by omega), List.getElem?_replicate] at h
      split at h <;> cases h
  exact ⟨⟨Same.refl _, s, fun _ _ _ h => h, fun _ _ h _ => h, fun _ _ h => h⟩, by simp [r.len], fun k t h => key r (fun _ h => h) k t h, fun x y o1 o2 hxy h1 h2 => ap x y o1 o2 hxy (inA h1) (inA h2)⟩
theorem Has.of {n : Str} {st : Stmt} {N ps : List Str} {k : Nat} {S : Spec} (D : Df K mg n st ps) (sc : FnScope N ps (defScope st)) (len : ∀ A Q R, S A Q R → A.length = ps.length)
    (body : ∀ (f : Addr) (cdv : Value) (A : Around) (outer : List Env) (s : Shared) (H : Hp) (E : XK), Room k (A.deeper (envOfC n (defScope st) s.heap.objs.size f cdv)) → ∀ Γ Q R, S Γ Q R →
      ST (cxOf (CXm P w K) P w K mg base N n (defScope st) f cdv A outer s H E).nox (defBody st) (Γ ++ List.replicate (N.length - ps.length) .no) (fin Q)) :
    Has P w K mg base (k + 1) n ps S := by
  obtain ⟨f, fd, F, hb, hm⟩ := D.ex
  refine ⟨f, fd, hm, F.kp, hb, F.okM sc (fun vs H Q E ⟨F0, A, s, r, ap, h⟩ => ?_) (fun cdv A outer s H vs Q E hr h => ?_)⟩
  · rw [r.len]; exact len _ _ _ h
  · obtain ⟨F0, A0, sm, r, ap, h⟩ := h
    refine ⟨_, psW.nox, ?_⟩
    have hl := len _ _ _ h
    have L0 := lc_start (K := K) sm r ap (N.length - ps.length)
    have L1 : Lc K ⟨F0, H, MA A0⟩ F0 H (L2.start N vs) (A0 ++ List.replicate (N.length - ps.length) .no) := by
      unfold L2.start
      rw [show vs.length = ps.length from r.len.trans hl]
      exact L0
    refine body f cdv A outer s H E hr A0 _ _ h ⟨F0, H, MA A0⟩ F0 H _ _ L1 ⟨fun F' H' σ' Γ' _ hq L => ?_, fun r v F' H' hq ex ok => hq v F' H' ex ok, fun _ _ _ _ _ z => z.elim, fun _ _ _ _ _ z => z.elim, fun _ _ _ _ _ _ _ _ z => z.elim⟩
    exact hq .non F' H' L.ext rfl
end
end Tw
namespace Tw
open PySem PySem.Spec PyProof.Rows L2 TL
class Dat (α : Type) [i : Rep α] [DecidableEq α] where
  en : α → PyData
  ok : α → Prop
  dep : Nat
  dp : ∀ {K F v x}, i.rp K F v x → Dp K F v (en x)
  lay : ∀ {x}, ok x → (en x).canLay0 = true
  deep : ∀ x, (en x).depth ≤ dep
  eqv : ∀ x y, PyData.eqv (en x) (en y) = decide (x = y)
noncomputable instance : Dat Int := ⟨.int, fun _ => True, 0, fun {_ _ v x} h => by obtain rfl : v = .int x := h; exact .int _, fun _ => by rw [PyData.canLay0], fun _ => by simp [PyData.depth], fun x y => by simp [PyData.eqv, Bool.beq_eq_decide_eq]⟩
noncomputable instance : Dat Bool := ⟨.bool, fun _ => True, 0, fun {_ _ v x} h => by obtain rfl : v = .bl x := h; exact .bl _, fun _ => by rw [PyData.canLay0], fun _ => by simp [PyData.depth], fun x y => by simp [PyData.eqv, Bool.beq_eq_decide_eq]⟩
noncomputable def TxOk (x : Tx) : Prop := ∀ c ∈ x, c < 1114112
noncomputable instance : Dat (List Nat) := ⟨fun x => .str (sx x), TxOk, 0, fun {_ _ v x} h => by obtain rfl : v = .str (sx x) := h; exact .str _, fun {x} h => by
    rw [PyData.canLay0]
    show (sx x).cps.all (· < 0x110000) = true
    rw [Array.all_eq_true']
    intro c hc
    exact decide_eq_true (h c (by simpa [sx] using hc)), fun _ => by simp [PyData.depth], fun x y => by
    rw [PyData.eqv, Bool.beq_eq_decide_eq]
    by_cases h : x = y
    · subst h; rw [decide_eq_true rfl, decide_eq_true rfl]
    · rw [decide_eq_false h, decide_eq_false fun z => h (sx_inj z)]⟩
section
variable {α β : Type} [i : Rep α] [DecidableEq α] [d : Dat α] [j : Rep β] [DecidableEq β] [f : Dat β]
theorem dpAll {K : PySem.W.Frag} {F : Hp} : ∀ {vs : List V} {xs : List α}, Paired (fun u x => i.rp K F u x) vs xs → DpAll K F vs (xs.map d.en)
  | _, _, .nil => .nil
  | _, _, .cons r t => .cons (d.dp r) (dpAll t)
theorem layAll : ∀ {xs : List α}, (∀ x ∈ xs, d.ok x) → PyData.canLayAll0 (xs.map d.en) = true
  | [], _ => by rw [List.map_nil, PyData.canLayAll0]
  | x :: xs, h => by
    rw [List.map_cons, PyData.canLayAll0, d.lay (h x (List.mem_cons_self ..)), layAll fun y hy => h y (List.mem_cons_of_mem _ hy)]
    rfl
theorem deepAll : ∀ xs : List α, PyData.depthAll (xs.map d.en) ≤ d.dep
  | [] => by rw [List.map_nil, PyData.depthAll]; exact Nat.zero_le _
  | x :: xs => by rw [List.map_cons, PyData.depthAll]; exact Nat.max_le.mpr ⟨d.deep x, deepAll xs⟩
theorem eqvAll : ∀ xs ys : List α, PyData.eqvAll (xs.map d.en) (ys.map d.en) = decide (xs = ys)
  | [], [] => by rw [List.map_nil, PyData.eqvAll]; rfl
  | x :: xs, [] => by rw [List.map_cons, List.map_nil, PyData.eqvAll]; rfl
  | [], y :: ys => by rw [List.map_cons, List.map_nil, PyData.eqvAll]; rfl
  | x :: xs, y :: ys => by
    rw [List.map_cons, List.map_cons, PyData.eqvAll, d.eqv, eqvAll xs ys, ← Bool.decide_and]
    exact decide_eq_decide.mpr (by simp)
noncomputable instance : Dat (List α) := ⟨fun xs => .list (xs.map d.en), fun xs => ∀ x ∈ xs, d.ok x, d.dep + 1, fun {K F v xs} ⟨a, vs, e, h, pr⟩ => by subst e; exact .lst (.inl (.inl h)) (dpAll pr), fun h => by rw [PyData.canLay0]; exact layAll h,
  fun xs => by rw [PyData.depth]; exact Nat.succ_le_succ (deepAll xs), fun xs ys => by rw [PyData.eqv]; exact eqvAll xs ys⟩
noncomputable instance : DecidableEq (Tup α) := fun x y => decidable_of_iff (x.l = y.l) (by cases x; cases y; simp)
noncomputable instance : Dat (Tup α) := ⟨fun xs => .tuple (xs.l.map d.en), fun xs => ∀ x ∈ xs.l, d.ok x, d.dep + 1, fun {K F v xs} ⟨a, vs, e, h, pr⟩ => by subst e; exact .tup (.inl (.inl h)) (dpAll pr), fun h => by rw [PyData.canLay0]; exact layAll h,
  fun xs => by rw [PyData.depth]; exact Nat.succ_le_succ (deepAll xs.l), fun xs ys => by
    rw [PyData.eqv, eqvAll]
    exact decide_eq_decide.mpr (by cases xs; cases ys; simp)⟩
noncomputable instance : Dat (α × β) := ⟨fun x => .tuple [d.en x.1, f.en x.2], fun x => d.ok x.1 ∧ f.ok x.2, max d.dep f.dep + 1, fun {K F v x} ⟨a, u, w, e, h, r1, r2⟩ => by subst e; exact .tup (.inl (.inl h)) (.cons (d.dp r1) (.cons (f.dp r2) .nil)),
  fun {x} h => by rw [PyData.canLay0, PyData.canLayAll0, PyData.canLayAll0, PyData.canLayAll0, d.lay h.1, f.lay h.2]; rfl,
  fun x => by
    rw [PyData.depth, PyData.depthAll, PyData.depthAll, PyData.depthAll]
    have h1 := d.deep x.1
    have h2 := f.deep x.2
    omega, fun x y => by
    rw [PyData.eqv, PyData.eqvAll, PyData.eqvAll, PyData.eqvAll, d.eqv, f.eqv, Bool.and_true, ← Bool.decide_and]
    exact decide_eq_decide.mpr (by cases x; cases y; simp)⟩
theorem shp {x : α} (h : d.ok x) (h2 : d.dep ≤ 64) : SeqAt.shaped (d.en x) = true := by
  unfold SeqAt.shaped
  rw [d.lay h, decide_eq_true (Nat.le_trans (d.deep x) h2)]
  rfl
end
section
variable {α : Type} [i : Rep α] [DecidableEq α] [d : Dat α] {X : Cx}
theorem dp_mono {K : PySem.W.Frag} {F H : Hp} {v : V} {x : α} (s : Same F H) (r : i.rp K F v x) : Dp K H v (d.en x) := d.dp (i.mono s r)
theorem o_eqD {x y : α} {k : Nat} (hr : Room k X.A) (hx : d.ok x) (hy : d.ok y) (h2 : autoParam (d.dep ≤ 64) aDec) : OB X (compareOp .Eq) x y (decide (x = y)) := ob_flat (op_eqD hr.units) fun F H v u Q s r1 r2 q =>
  ⟨d.en x, d.en y, dp_mono s r1, dp_mono s r2, shp hx h2, shp hy h2, q _ (by rw [d.eqv]; rfl)⟩
end
class Ty (α : Type) [i : Rep α] where
  ty : String
  is : ∀ {K F H v} {x : α}, Same F H → i.rp K F v x → TyX K H v (.type ty)
noncomputable instance : Ty Int := ⟨"int", fun {_ _ _ v x} _ h => by obtain rfl : v = .int x := h; exact .base (.int _)⟩
noncomputable instance : Ty Bool := ⟨"bool", fun {_ _ _ v x} _ h => by obtain rfl : v = .bl x := h; exact .base (.bl _)⟩
noncomputable instance : Ty (List Nat) := ⟨"str", fun {_ _ _ v x} _ h => by obtain rfl : v = .str (sx x) := h; exact .base (.str _)⟩
noncomputable instance {α : Type} [i : Rep α] : Ty (List α) := ⟨"list", fun {_ _ _ v x} s h => by obtain ⟨a, vs, rfl, h, _⟩ := h; exact .base (.lst (s _ _ h))⟩
noncomputable instance {α : Type} [i : Rep α] : Ty (Tup α) := ⟨"tuple", fun {_ _ _ v x} s h => by obtain ⟨a, vs, rfl, h, _⟩ := h; exact .base (.tup (s _ _ h))⟩
noncomputable instance {α β : Type} [i : Rep α] [j : Rep β] : Ty (α × β) := ⟨"tuple", fun {_ _ _ v x} s h => by obtain ⟨a, u, w, rfl, h, _⟩ := h; exact .base (.tup (s _ _ h))⟩
section
variable {X : Cx} {Γ : List Slot} {α β γ : Type} {i : Rep α} {j : Rep β} {l : Rep γ} {pos p p2 : Pos} {e a b c elt tg it : Expr} {es : List Expr} {E : SE} {rest body : List Stmt}
theorem ev_isi {α : Type} [i : Rep α] [t : Ty α] {x : α} (T : String) (k : Bool) (hm : X.mg "isinstance" = none) (hmT : X.mg (Str.ofString T) = none) (h : EV X Γ e x) (hvT : bootBuiltins (Str.ofString T) = some (.type T) := by decide +kernel) (hk : kitB t.ty T = some k := by decide +kernel) (hg : autoParam (Gl X "isinstance") aRfl) (hgT : autoParam (Gl X (Str.ofString T)) aRfl)
    (hnT : autoParam (Str.ofString T ≠ "__name__") aDec) (hdT : autoParam ((Str.ofString T == ("__debug__" : Str)) = false) aDec)
    (hs : autoParam (starEach [e, .Name (Str.ofString T) p2] X.env = (false, eval e X.env) :: starEach [.Name (Str.ofString T) p2] X.env) aStar) (hs2 : autoParam (starEach [.Name (Str.ofString T) p2] X.env = (false, eval (.Name (Str.ofString T) p2) X.env) :: starEach [] X.env) aStar) (hpl : autoParam ((backTo pos (starEach [.Name (Str.ofString T) p2] X.env)).any (·.1) = false) aPl) :
    EV X Γ (.Call (.Name "isinstance" p) [e, .Name (Str.ofString T) p2] [] pos) k := fun B F H σ Q L q =>
  WE.of (pe_callB call_isi hg hm (by decide +kernel) (pa_cons peW (pa_cons (pe_bltn (v := .ty T) hgT hmT hvT rfl hnT hdT) pa_nil hs2) hs) (by decide) (by decide) hs hpl) (h B F H σ _ L fun v F1 H1 e1 r1 =>
    ⟨v, .ty T, .type t.ty, .type T, k, rfl, .ty T, t.is (L.step e1).same r1, kit_ty hk, q _ F1 H1 e1 rfl⟩)
noncomputable def Le (Γ Γ' : List Slot) : Prop := Γ.length = Γ'.length ∧ ∀ (k : Nat) s, Γ'[k]? = some s → s = .no ∨ Γ[k]? = some s
theorem Le.refl : Le Γ Γ := ⟨rfl, fun _ _ h => .inr h⟩
theorem le_nil : Le [] [] := ⟨rfl, fun _ _ h => .inr h⟩
theorem le_cons {s : Slot} {Γ Γ' : List Slot} (h : Le Γ Γ') : Le (s :: Γ) (s :: Γ') := ⟨by simp [h.1], fun k t e => by
  cases k with
  | zero => exact .inr e
  | succ k => exact h.2 k t (by simpa using e)⟩
theorem le_no {s : Slot} {Γ Γ' : List Slot} (h : Le Γ Γ') : Le (s :: Γ) (.no :: Γ') := ⟨by simp [h.1], fun k t e => by
  cases k with
  | zero => simp at e; exact .inl e.symm
  | succ k => exact h.2 k t (by simpa using e)⟩
theorem Le.trans {Γ Γ' Γ'' : List Slot} (h : Le Γ Γ') (h2 : Le Γ' Γ'') : Le Γ Γ'' := ⟨h.1.trans h2.1, fun k s e => by
  rcases h2.2 k s e with z | z
  · exact .inl z
  · exact h.2 k s z⟩
theorem Lc.le {K : PySem.W.Frag} {B : Bs} {F H : Hp} {σ : L2.St} {Γ Γ' : List Slot} (L : Lc K B F H σ Γ) (h : Le Γ Γ') : Lc K B F H σ Γ' :=
  ⟨L.ext, L.len.trans h.1, fun k s e => by
    rcases h.2 k s e with rfl | e
    · trivial
    · exact L.ok k s e, fun x y o1 o2 hxy h1 h2 => by
    rcases h.2 x _ h1 with z | h1
    · cases z
    rcases h.2 y _ h2 with z | h2
    · cases z
    exact L.ap x y o1 o2 hxy h1 h2⟩
theorem st_le {sts : List Stmt} {Γ Γ' : List Slot} (h : Le Γ Γ') (hs : ST X sts Γ' E) : ST X sts Γ E := fun B F H σ D L ed => hs B F H σ D (L.le h) ed
end
noncomputable def lawS : Spec := fun A P _ => ∃ s : Scr, A = [vl s] ∧ s.l.length ≤ 63 ∧ P (rv true)
theorem hCX0 (P : Program) (w : World) (H : Hp) (s : Shared) (e : Value) (s' : Shared) : L2.CX P w [] H s (fun _ _ _ => False) e s' → False := fun ⟨_, _, _, _, _, _, _, _, _, _, _, _, z⟩ => z
theorem law_sp (K : PySem.W.Frag) (H : Hp) (a : Addr) (ns : List Int) (hl : ns.length ≤ 63) (hS : SqL K H a (ns.map V.int)) : spOf K lawS [.ref a] H (fun v _ => v = .bl true) fun _ _ _ => False := by
  refine ⟨H, [vl (Scr.mk ns)], Same.refl H, ⟨⟨a, rfl, hS⟩, trivial⟩, fun i j o1 o2 _ h1 _ => ?_, ⟨ns⟩, rfl, hl, fun v F' H' _ ok => ok⟩
  have := List.mem_of_getElem? h1
  rw [List.mem_singleton] at this
  cases this
section
variable {P : Program} {w : World} {K : PySem.W.Frag} {mg : Str → Option Value} {base : Heap}
noncomputable def BodyOk (P : Program) (w : World) (K : PySem.W.Frag) (mg : Str → Option Value) (base : Heap) (k : Nat) (n : Str) (st : Stmt) (N ps : List Str) (S : Spec) : Prop :=
  ∀ (f : Addr) (cdv : Value) (A : Around) (outer : List Env) (s : Shared) (H : Hp) (E : XK), Room k (A.deeper (envOfC n (defScope st) s.heap.objs.size f cdv)) → ∀ Γ Q R, S Γ Q R →
      ST (cxOf (L2.CX P w) P w K mg base N n (defScope st) f cdv A outer s H E).nox (defBody st) (Γ ++ List.replicate (N.length - ps.length) .no) (fin Q)
theorem law_fn {f : Addr} {fd : FuncData} {st : Stmt} {N : List Str} {x : Str} {k : Nat} (F : Fun K "law" "law" st f fd) (sc : FnScope N [x] (defScope st)) (body : BodyOk P w K mg base k "law" st N [x] lawS) :
    FnOk P w K mg base (L2.CX P w) (k + 1) f fd [x] (spOf K lawS) := by
  refine F.okX sc (fun vs H Q E ⟨F0, A, s, r, ap, h⟩ => ?_) (fun cdv A outer s H vs Q E hr h => ?_)
  · obtain ⟨s, rfl, _⟩ := h
    rw [r.len]; rfl
  · obtain ⟨F0, A0, sm, r, ap, h⟩ := h
    refine ⟨_, psW.nox, ?_⟩
    have hl : A0.length = 1 := by obtain ⟨s, rfl, _⟩ := h; rfl
    have L0 := lc_start (K := K) sm r ap (N.length - 1)
    have L1 : Lc K ⟨F0, H, MA A0⟩ F0 H (L2.start N vs) (A0 ++ List.replicate (N.length - 1) .no) := by
      unfold L2.start
      rw [show vs.length = 1 from r.len.trans hl]
      exact L0
    refine body f cdv A outer s H E hr A0 _ _ h ⟨F0, H, MA A0⟩ F0 H _ _ L1 ⟨fun F' H' σ' Γ' _ hq L => ?_, fun r v F' H' hq ex ok => hq v F' H' ex ok, fun _ _ _ _ _ z => z.elim, fun _ _ _ _ _ z => z.elim, fun _ _ _ _ _ _ _ _ z => z.elim⟩
    exact hq .non F' H' L.ext rfl
end
theorem ev_gintE {X : Cx} {Γ : List Slot} {pos : Pos} {n : Str} {z : Int} (hm : ∃ t, X.mg n = some (.int z t)) (hg : autoParam (Gl X n) aRfl) (hd : autoParam ((n == ("__debug__" : Str)) = false) aDec) : EV X Γ (.Name n pos) z := by
  obtain ⟨t, hm⟩ := hm
  exact ev_gint hm hg hd
theorem ev_gstrE {X : Cx} {Γ : List Slot} {pos : Pos} {n : Str} {s : String} (hm : ∃ t, X.mg n = some (.str (Str.ofString s) t)) (hg : autoParam (Gl X n) aRfl) (hd : autoParam ((n == ("__debug__" : Str)) = false) aDec) : EV X Γ (.Name n pos) (tx s) := by
  obtain ⟨t, hm⟩ := hm
  exact ev_gstr s hm hg hd
theorem pgn {X : Cx} (k : Nat) {n : Str} {pos : Pos} (hN : X.N.Nodup) (hi : autoParam (X.N[k]? = some n) aRfl) (hx : autoParam (L2.Loc X.env.scope n) aLoc)
    (hf : autoParam (X.fn n = true ∨ X.env.scope.names.lookup n = some .local) Tw.aFn) : PG X (.Name n pos) (gName k) := pg_name hN hi hx hf
theorem Le.set {Γ Γ' : List Slot} (h : Le Γ Γ') (k : Nat) (s : Slot) : Le (Γ.set k s) (Γ'.set k s) := ⟨by simp [h.1], fun q t e => by
  rcases get_set_slot e with ⟨e1, e2, rfl⟩ | ⟨e1, e⟩
  · refine .inr ?_
    subst e1
    rw [List.getElem?_set_self (by rw [h.1]; exact e2)]
  · rcases h.2 q t e with z | z
    · exact .inl z
    · exact .inr (by rw [List.getElem?_set_ne e1]; exact z)⟩
theorem rng_mem {lo : Int} {n : Nat} {x : Int} (h : x ∈ rng lo n) : ∃ k : Nat, k < n ∧ x = lo + k := by
  unfold rng at h
  obtain ⟨k, hk, rfl⟩ := List.mem_map.mp h
  exact ⟨k, List.mem_range.mp hk, rfl⟩
theorem joinOnes {A : Type} (xs : List A) (f : A → Nat) : joinL [] (xs.map fun x => ([f x] : Tx)) = xs.map f := by
  rw [show (fun x => ([f x] : Tx)) = (fun c => ([c] : Tx)) ∘ f from rfl, ← List.map_map, joinL_one]
theorem lt_line {n : Nat} (h : n ≤ 1000) : n < sizeLine := Nat.lt_of_le_of_lt h (by decide)
theorem sum_ones {A : Type} (xs : List A) (f : A → Nat) : ((xs.map fun x => ([f x] : Tx)).map (·.length)).sum = xs.length := by
  rw [List.map_map, show (List.length ∘ fun x => ([f x] : Tx)) = fun _ => 1 from rfl, List.map_const', List.sum_replicate_nat]; omega
end Tw
namespace Tw
open PySem PySem.Spec PyProof.Rows L2 TL
section
variable {X : Cx} {Γ : List Slot} {α β γ δ : Type} {i : Rep α} {j : Rep β} {l : Rep γ} {m : Rep δ} {pos p p2 : Pos} {e a b c d elt tg it : Expr} {es : List Expr} {E : SE} {rest body : List Stmt}
theorem ev_all {bs : List Bool} (hm : X.mg "all" = none) (h : EV X Γ e bs) (hc : autoParam (X.calm = true) aRfl) (hg : autoParam (Gl X "all") aRfl) (hs : autoParam (starEach [e] X.env = (false, eval e X.env) :: starEach [] X.env) aStar) (hpl : autoParam ((backTo pos (starEach [] X.env)).any (·.1) = false) aPl) :
    EV X Γ (.Call (.Name "all" p) [e] [] pos) (bs.all id) :=
  ev_callB1 (cr_all hc) hm (by decide +kernel) h (fun F H v Q s r q => by
    obtain ⟨ad, vs, rfl, ha, pr⟩ := r
    exact ⟨ad, bs, rfl, by rw [← Rps.bls pr]; exact sq_of s ha, q _ F H (Ext.refl s) rfl⟩) hg (by decide) (by decide) hs hpl
theorem ev_any {bs : List Bool} (hm : X.mg "any" = none) (h : EV X Γ e bs) (hc : autoParam (X.calm = true) aRfl) (hg : autoParam (Gl X "any") aRfl) (hs : autoParam (starEach [e] X.env = (false, eval e X.env) :: starEach [] X.env) aStar) (hpl : autoParam ((backTo pos (starEach [] X.env)).any (·.1) = false) aPl) :
    EV X Γ (.Call (.Name "any" p) [e] [] pos) (bs.any id) :=
  ev_callB1 (cr_any hc) hm (by decide +kernel) h (fun F H v Q s r q => by
    obtain ⟨ad, vs, rfl, ha, pr⟩ := r
    exact ⟨ad, bs, rfl, by rw [← Rps.bls pr]; exact sq_of s ha, q _ F H (Ext.refl s) rfl⟩) hg (by decide) (by decide) hs hpl
theorem pg2 (k1 k2 : Nat) {n1 n2 : Str} {q1 q2 tp : Pos} {kk} (h1 : PG X (.Name n1 q1) (gName k1)) (h2 : PG X (.Name n2 q2) (gName k2)) (hc : autoParam (X.calm = true) aRfl)
    (a3 : autoParam ((assignEach [.Name n1 q1, .Name n2 q2] X.env).map (·.2) = assign (.Name n1 q1) X.env :: (assignEach [.Name n2 q2] X.env).map (·.2)) aRfl)
    (a4 : autoParam ((assignEach [.Name n2 q2] X.env).map (·.2) = assign (.Name n2 q2) X.env :: (assignEach [] X.env).map (·.2)) aRfl)
    (hn : autoParam ((assignEach [.Name n1 q1, .Name n2 q2] X.env).length = 2) aRfl) (hst : autoParam ((assignEach [.Name n1 q1, .Name n2 q2] X.env).findIdx? (·.1) = none) aRfl) :
    PG X (.Tuple [.Name n1 q1, .Name n2 q2] kk tp) (gTup X.K 2 (gCons (gName k1) (gCons (gName k2) gNil))) := pg_tup hc (pgs_cons h1 (pgs_cons h2 pgs_nil a4) a3) hn hst
structure Thing where
  u : Unit
noncomputable instance repThing : Rep Thing := ⟨fun _ _ _ _ => True, fun _ h => h⟩
end
end Tw
namespace Tw
open PySem PySem.Spec PyProof.Rows L2 TL
structure XCls (K : PySem.W.Frag) (n : Str) (C : Addr) : Prop where
  ns : PySem.W.nsIn K mainGlobals n = some (some (.ref C))
  kp : PySem.W.keepIn K (.ref C) = true
  ty : PySem.W.typeIn K (.ref C) = some (.type "type")
  is : ExcC K C
noncomputable def XC (K : PySem.W.Frag) (mg : Str → Option Value) (n : Str) : Prop := ∃ C, XCls K n C ∧ mg n = some (.ref C)
noncomputable def XPlain (K : PySem.W.Frag) (n : Str) : Prop := ∀ C, PySem.W.nsIn K mainGlobals n = some (some (.ref C)) → PySem.W.excIn K C [.type "ValueError", .type "Exception", .type "BaseException", .type "object"] "ValueError.__new__" = true
noncomputable def XSub (K : PySem.W.Frag) (n m : Str) (b : Bool) : Prop := ∀ C D, PySem.W.nsIn K mainGlobals n = some (some (.ref C)) → PySem.W.nsIn K mainGlobals m = some (some (.ref D)) → PySem.W.exmOne K (.ref C) (.ref D) = some b ∧ PySem.W.kitOne K (.ref C) (.ref D) = some b
noncomputable def XSubT (K : PySem.W.Frag) (n : Str) (T : String) (b : Bool) : Prop := ∀ C, PySem.W.nsIn K mainGlobals n = some (some (.ref C)) → PySem.W.kitOne K (.ref C) (.type T) = some b
noncomputable def XNone (K : PySem.W.Frag) (t : String) (m : Str) : Prop := ∀ D, PySem.W.nsIn K mainGlobals m = some (some (.ref D)) → PySem.W.kitOne K (.type t) (.ref D) = some false
theorem ns_one {K : PySem.W.Frag} {n : Str} {C D : Addr} (h1 : PySem.W.nsIn K mainGlobals n = some (some (.ref C))) (h2 : PySem.W.nsIn K mainGlobals n = some (some (.ref D))) : D = C := by
  rw [h1] at h2
  cases h2
  rfl
theorem kitOf {K : PySem.W.Frag} {t : Value} {D : Addr} {b : Bool} (ht : PySem.W.typeIn K (.ref D) = some (.type "type")) (hd : PySem.W.hasDictIn K D = true) (h : PySem.W.subIn K t (.ref D) = some b) (hb : t = .ref D → b = true) : PySem.W.kitOne K t (.ref D) = some b := by
  unfold PySem.W.kitOne
  split
  · rename_i e
    rw [hb (beq_iff_eq.mp e)]
  · obtain ⟨cd, hc, _⟩ := PySem.W.any_some hd
    show (if ((PySem.W.clsIn K D).isSome && PySem.W.typeIn K (.ref D) == some (.type "type")) = true then PySem.W.subIn K t (.ref D) else none) = some b
    rw [if_pos (by rw [hc, ht]; rfl)]
    exact h
theorem XPlain.mk {K : PySem.W.Frag} {n : Str} {C : Addr} (a : PySem.W.nsIn K mainGlobals n = some (some (.ref C))) (h : PySem.W.excIn K C [.type "ValueError", .type "Exception", .type "BaseException", .type "object"] "ValueError.__new__" = true) : XPlain K n := fun D e => ns_one a e ▸ h
theorem XSub.mk {K : PySem.W.Frag} {n m : Str} {b : Bool} {C D : Addr} (a1 : PySem.W.nsIn K mainGlobals n = some (some (.ref C))) (a2 : PySem.W.nsIn K mainGlobals m = some (some (.ref D))) (ht : PySem.W.typeIn K (.ref D) = some (.type "type")) (hs : PySem.W.subIn K (.ref D) (.type "BaseException") = some true) (hd : PySem.W.hasDictIn K D = true)
    (h : PySem.W.subIn K (.ref C) (.ref D) = some b) (hb : C = D → b = true) : XSub K n m b := fun C' D' e1 e2 => by
  obtain rfl := ns_one a1 e1
  obtain rfl := ns_one a2 e2
  exact ⟨PySem.W.exm_ref hs hd ht h, kitOf ht hd h fun e => hb (Value.ref.inj e)⟩
theorem XSubT.mk {K : PySem.W.Frag} {n : Str} {T : String} {b : Bool} {C : Addr} (hm : PySem.W.kitMeta T = true) (a : PySem.W.nsIn K mainGlobals n = some (some (.ref C))) (h : PySem.W.subIn K (.ref C) (.type T) = some b) : XSubT K n T b := fun D e => by
  obtain rfl := ns_one a e
  show (if PySem.W.kitMeta T = true then PySem.W.subIn K (.ref D) (.type T) else none) = some b
  rw [if_pos hm]
  exact h
theorem XNone.mk {K : PySem.W.Frag} {t : String} {m : Str} {D : Addr} (a : PySem.W.nsIn K mainGlobals m = some (some (.ref D))) (ht : PySem.W.typeIn K (.ref D) = some (.type "type")) (hd : PySem.W.hasDictIn K D = true) (h : PySem.W.subIn K (.type t) (.ref D) = some false) : XNone K t m := fun D' e => by
  obtain rfl := ns_one a e
  exact kitOf ht hd h fun z => nomatch z
noncomputable def ErrO (cls : Value) (d : Option Addr) (a : Addr) : HO := .ext fun h => ∃ (oe : Obj) (vs : Array Value), h.get? a = some oe ∧ Zc cls d oe ∧ oe.data = .fields vs
theorem errO_ok {P : Program} {w : World} {H : Hp} {h : Heap} {a : Addr} {cls : Value} {d : Option Addr} {oe : Obj} {vs : Array Value} (e : h.get? a = some oe) (z : Zc cls d oe) (hd : oe.data = .fields vs) : ObjOk P w H h a (ErrO cls d a) :=
  ⟨⟨oe, vs, e, z, hd⟩, ⟨oe, e⟩, fun _ _ ⟨o, v, q, r⟩ k => ⟨o, v, k o q, r⟩⟩
structure Err where
  cls : Str
structure ErrW (α : Type) where
  cls : Str
  fld : Str
  why : α
noncomputable def ErrAt (K : PySem.W.Frag) (F : Hp) (v : V) (n : Str) (d : Option Addr) : Prop := ∃ a C, v = .ref a ∧ F a = some (ErrO (.ref C) d a) ∧ PySem.W.nsIn K mainGlobals n = some (some (.ref C))
noncomputable instance repErr : Rep Err := ⟨fun K F v x => ErrAt K F v x.cls none, fun s ⟨a, C, e, h, n⟩ => ⟨a, C, e, s _ _ h, n⟩⟩
noncomputable instance repErrW {α : Type} [i : Rep α] : Rep (ErrW α) := ⟨fun K F v x => ∃ dx w, ErrAt K F v x.cls (some dx) ∧ F dx = some (.xd [(x.fld, w)]) ∧ i.rp K F w x.why,
  fun s ⟨dx, w, ⟨a, C, e, h, n⟩, h2, r⟩ => ⟨dx, w, ⟨a, C, e, s _ _ h, n⟩, s _ _ h2, i.mono s r⟩⟩
noncomputable def Exn.slot (x : Exn) : Slot := match x.why with
  | .no => .val repErr ⟨x.cls⟩
  | .val i y => .val (@repErrW _ i) ⟨x.cls, x.fld, y⟩
  | .own _ => .no
class IsErr (α : Type) [i : Rep α] where
  cls : α → Str
  at_ : ∀ {K F v x}, i.rp K F v x → ∃ d, ErrAt K F v (cls x) d ∧ ∀ dx, d = some dx → ∃ fs, F dx = some (.xd fs)
noncomputable instance : IsErr Err := ⟨fun x => x.cls, fun h => ⟨none, h, fun _ z => nomatch z⟩⟩
noncomputable instance {α : Type} [i : Rep α] : IsErr (ErrW α) := ⟨fun x => x.cls, fun ⟨dx, w, h, h2, _⟩ => ⟨some dx, h, fun d e => by cases e; exact ⟨_, h2⟩⟩⟩
section
open PySem.W
variable {prog : Program} {w : World} {A : Around} {E : Value → Shared → Prop} {s : Shared} {K : Frag} {x D : Addr} {ox : Obj} {od : Option Obj}
theorem findObj_dataD {C : Addr} {name : Str} {a g : Value} (hc : (clsIn K C).isSome = true) (ha : findIn K (.ref C) name = some (some a)) (hg : specialIn K a "__get__" = some (some g)) (ht : takesIn K a = some true) : findObj K C od name = some (.bind g a) := by
  obtain ⟨cd, hc⟩ := Option.isSome_iff_exists.mp hc
  unfold findObj
  rw [hc, Option.bind_some, ha, Option.bind_some]
  simp [hg, ht]
theorem kin_classD {Q : Option Value → Shared → Prop} (T : L2.ExcC K D) (X : K.In s.heap) (I : InstAt s.heap x ox D od) (h : Q (some (.ref D)) { s with toks := s.toks + 1 }) : wpAny (model prog w) A (getAttr? (.ref x) "__class__") Q E s := by
  have hf : findObj K D od "__class__" = some (.bind (.builtin "getset_descriptor.__get__") (.builtin "object.__class__")) := findObj_dataD (by obtain ⟨cd, hc, _⟩ := any_some T.hd; rw [hc]; rfl) T.ha T.hn T.ht
  obtain ⟨hp, g, d, t, os⟩ := s
  have L0 := I.type (M := model prog w)
  have L1 := looks_findIn (M := model prog w) X T.hg
  have L2 := looks_findIn (M := model prog w) X T.hk
  have L3 := looks_find (M := model prog w) X I hf
  have sub : Looks (model prog w) hp (isInstance (.ref x) (.type "BaseException")) true := L0.andThen (looks_subIn X T.hs)
  have hx0 : (false && onTheHeap (Value.builtin "BaseException.__getattribute__")) = false := rfl
  have hx2 : (Value.builtin "BaseException.__getattribute__" == Value.builtin "object.__getattribute__") = false := by decide +kernel
  have hx1 : (onTheHeap (Value.ref D) && Value.builtin "BaseException.__getattribute__" == Value.builtin "object.__getattribute__") = false := by rw [hx2]; rfl
  unfold getAttr? getAttrBy? getAttrBy
  refine wpAny_bind (wpAny_mkText (wpAny_bind (wpAny_attempt (wpAny_holding (wpAny_bind (L0.at (wpAny_bind (L1.at ?_))))))))
  show wpAny _ _ (if (onTheHeap (Value.ref D) && Value.builtin "BaseException.__getattribute__" == Value.builtin "object.__getattribute__") = true then _ else _) _ _ _
  rw [hx1, if_neg Bool.false_ne_true]
  unfold getAttrByItsOwn hookBefore
  refine wpAny_bind ?_
  rw [if_pos (show onTheHeap (Value.ref D) = true from rfl)]
  refine L2.at ?_
  refine wpAny_bind (wpAny_attempt (wpAny_holding ?_))
  unfold callGetattribute
  rw [hx0, if_neg Bool.false_ne_true]
  unfold boundAndCalled
  rw [PySem.F.excAttr_ValueError.ga.bind (.ref x)]
  refine wpAny_bind (wpAny_pure ?_)
  show wpAny _ _ (call (.builtin "BaseException.__getattribute__") [.ref x, .str "__class__" t]) _ _ _
  refine wpAny_call (codeAny_call_builtin PySem.F.excAttr_ValueError.ga.plain PySem.F.entry_bexc_ga ?_)
  refine @check_slot (model prog w) _ _ ⟨hp, g, d, t + 1, os⟩ "BaseException.__getattribute__" "BaseException" "__getattribute__" (.ref x) [.str "__class__" t] [] _ (by decide +kernel) (by decide +kernel) sub (PySem.F.args_bexc_ga (.ref x) (.str "__class__" t)) ?_
  unfold Builtin.«object.__getattribute__»
  refine wpAny_bind (wpAny_of_eq (a := ((Value.ref x : Value), [Value.str "__class__" t])) (by first | rfl | (simp only [slotArgs]; rfl)) ?_)
  refine wpAny_bind (wpAny_pure (wpAny_bind (L0.at (wpAny_bind (L3.at ?_)))))
  show wpAny _ _ (holding [Value.builtin "object.__class__"] (call (.builtin "getset_descriptor.__get__") [.builtin "object.__class__", .ref x, .ref D]) >>= ret) _ _ _
  refine wpAny_bind (wpAny_holding (wpAny_call (class_get (s := ⟨hp, g, d, t + 1, os⟩) (ox := ox) (od := od) X I T.hm ?_)))
  refine wpAny_pure ?_
  show wpAny _ _ (handedOut (.ref D)) _ _ _
  rw [handedOut_of (v := .ref D) rfl]
  first
    | exact wpAny_pure (wpAny_pure h)
    | exact wpAny_pure h
    | exact wpAny_pure (wpAny_bind (wpAny_pure (wpAny_pure h)))
theorem kitx_err (T : L2.ExcC K D) : KitX K (.ref x) (.ref D) (fun h => ∃ ox od, InstAt h x ox D od) where
  ty := fun _ _ _ ⟨_, _, I⟩ => I.type
  it := fun _ _ X _ => by
    obtain ⟨cdD, hcD, _⟩ := any_some T.hd
    unfold clsIn at hcD
    split at hcD
    · rename_i c' d' cd' sl' ho
      intro A' Q' E' s' k q
      unfold isType loadHead
      exact wpAny_bind (wpAny_loadPart (k _ _ (X _ _ ho)) (wpAny_pure q))
    · cases hcD
  ne := fun h tp dd its n sl X htp => by
    obtain ⟨cdD, hcD, _⟩ := any_some T.hd
    refine Bool.eq_false_iff.mpr fun q => ?_
    have e : D = tp := Value.ref.inj (beq_iff_eq.mp q)
    subst e
    unfold clsIn at hcD
    split at hcD
    · rename_i c' d' cd' sl' ho
      have z := (X _ _ ho).symm.trans htp
      cases z
    · cases hcD
  ca := fun X ⟨_, _, I⟩ k => kin_classD T X I k
end
section
variable {X : Cx} {pins : List (Addr × Obj)} {σ : L2.St} {H : Hp} {s : Shared}
theorem err_inst {a C : Addr} {d : Option Addr} (I : Inv X pins σ H s) (ha : H a = some (ErrO (.ref C) d a)) (hd : ∀ dx, d = some dx → ∃ fs, H dx = some (.xd fs)) : ∃ ox od, PySem.W.InstAt s.heap a ox C od := by
  have x : ObjOk X.prog X.w H s.heap a (ErrO (.ref C) d a) := I.hok a _ ha
  obtain ⟨⟨oe, vs, hget, hz, hv⟩, _⟩ := x
  have no : PySem.W.notCls oe = true := by unfold PySem.W.notCls; rw [hv] <;> rfl
  cases d with
  | none => exact ⟨oe, none, hget, hz.1, no, by rw [hz.2]; trivial⟩
  | some dx =>
    obtain ⟨fs, ed⟩ := hd dx rfl
    have hx : ObjOk X.prog X.w H s.heap dx (.xd fs) := I.hok dx _ ed
    obtain ⟨mA, hns, hr⟩ := hx
    obtain ⟨od, ho, hl⟩ := lookIn_ns hns
    exact ⟨oe, some od, hget, hz.1, no, by rw [hz.2]; exact ho⟩
noncomputable def rIsErr (K : PySem.W.Frag) : List V → Hp → VK → Prop := fun xs H Q => ∃ (a C : Addr) (d : Option Addr) (c : V) (u : Value) (b : Bool), xs = [.ref a, c] ∧ H a = some (ErrO (.ref C) d a) ∧ (∀ dx, d = some dx → ∃ fs, H dx = some (.xd fs)) ∧ ExcC K C ∧ ClsV c u ∧ PySem.W.kitOne K (.ref C) u = some b ∧ Q (.bl b) H
theorem call_isErr : CallR X (.builtin "isinstance") (rIsErr X.K) := by
  intro pins s σ H xs us Q I r h
  obtain ⟨a, C, d, c, u, b, rfl, ha, hd, T, k, e, q⟩ := h
  obtain ⟨u1, u2, rfl, r1, r2⟩ := vals2 r
  have e2 := k.eq r2
  subst e2
  obtain rfl : u1 = Value.ref a := r1
  exact PySem.W.kia_one (kitx_err T) I.kIn (err_inst I ha hd) e (fun z => nomatch z) fun tk => ⟨.bl b, H, I.tok tk, rfl, q⟩
end
end Tw
namespace Tw
open PySem PySem.Spec PyProof.Rows L2 TL
section
variable {X : Cx} {Γ : List Slot} {α β γ : Type} {i : Rep α} {j : Rep β} {l : Rep γ} {pos p p2 : Pos} {e a b c elt tg it : Expr} {es : List Expr} {E : SE} {rest body : List Stmt}
theorem ev_isiE {α : Type} [i : Rep α] [t : IsErr α] {x : α} {n c : Str} {k : Bool} (hm : X.mg "isinstance" = none) (hx : XC X.K X.mg n) (hc : XC X.K X.mg c) (hk : XSub X.K n c k) (h : EV X Γ e x) (hn : autoParam (t.cls x = n) aRfl) (hg : autoParam (Gl X "isinstance") aRfl) (hgT : autoParam (Gl X c) aRfl) (hdT : autoParam ((c == ("__debug__" : Str)) = false) aDec)
    (hs : autoParam (starEach [e, .Name c p2] X.env = (false, eval e X.env) :: starEach [.Name c p2] X.env) aStar) (hs2 : autoParam (starEach [.Name c p2] X.env = (false, eval (.Name c p2) X.env) :: starEach [] X.env) aStar) (hpl : autoParam ((backTo pos (starEach [.Name c p2] X.env)).any (·.1) = false) aPl) :
    EV X Γ (.Call (.Name "isinstance" p) [e, .Name c p2] [] pos) k := fun B F H σ Q L q => by
  obtain ⟨D, xD, gD⟩ := hc
  obtain ⟨C, xC, gC⟩ := hx
  refine WE.of (pe_callB call_isErr hg hm (by decide +kernel) (pa_cons peW (pa_cons (pe_glob (v := .ref D) hgT gD rfl hdT) pa_nil hs2) hs) (by decide) (by decide) hs hpl) (h B F H σ _ L fun v F1 H1 e1 r1 => ?_)
  obtain ⟨d, ⟨ad, C', rfl, ha, hC⟩, hd⟩ := t.at_ r1
  rw [hn] at hC
  obtain rfl := ns_one xC.ns hC
  have s1 := (L.step e1).same
  exact ⟨ad, C', d, .ref D, .ref D, k, rfl, s1 _ _ ha, fun dx z => by obtain ⟨fs, y⟩ := hd dx z; exact ⟨fs, s1 _ _ y⟩, xC.is, .own D, (hk C' D xC.ns xD.ns).2, q _ F1 H1 e1 rfl⟩
theorem ev_isiEB {α : Type} [i : Rep α] [t : IsErr α] {x : α} {n : Str} (T : String) {k : Bool} (hm : X.mg "isinstance" = none) (hmT : X.mg (Str.ofString T) = none) (hx : XC X.K X.mg n) (hk : XSubT X.K n T k) (h : EV X Γ e x) (hn : autoParam (t.cls x = n) aRfl) (hvT : bootBuiltins (Str.ofString T) = some (.type T) := by decide +kernel) (hg : autoParam (Gl X "isinstance") aRfl) (hgT : autoParam (Gl X (Str.ofString T)) aRfl)
    (hnT : autoParam (Str.ofString T ≠ "__name__") aDec) (hdT : autoParam ((Str.ofString T == ("__debug__" : Str)) = false) aDec)
    (hs : autoParam (starEach [e, .Name (Str.ofString T) p2] X.env = (false, eval e X.env) :: starEach [.Name (Str.ofString T) p2] X.env) aStar) (hs2 : autoParam (starEach [.Name (Str.ofString T) p2] X.env = (false, eval (.Name (Str.ofString T) p2) X.env) :: starEach [] X.env) aStar) (hpl : autoParam ((backTo pos (starEach [.Name (Str.ofString T) p2] X.env)).any (·.1) = false) aPl) :
    EV X Γ (.Call (.Name "isinstance" p) [e, .Name (Str.ofString T) p2] [] pos) k := fun B F H σ Q L q => by
  obtain ⟨C, xC, gC⟩ := hx
  refine WE.of (pe_callB call_isErr hg hm (by decide +kernel) (pa_cons peW (pa_cons (pe_bltn (v := .ty T) hgT hmT hvT rfl hnT hdT) pa_nil hs2) hs) (by decide) (by decide) hs hpl) (h B F H σ _ L fun v F1 H1 e1 r1 => ?_)
  obtain ⟨d, ⟨ad, C', rfl, ha, hC⟩, hd⟩ := t.at_ r1
  rw [hn] at hC
  obtain rfl := ns_one xC.ns hC
  have s1 := (L.step e1).same
  exact ⟨ad, C', d, .ty T, .type T, k, rfl, s1 _ _ ha, fun dx z => by obtain ⟨fs, y⟩ := hd dx z; exact ⟨fs, s1 _ _ y⟩, xC.is, .ty T, hk C' xC.ns, q _ F1 H1 e1 rfl⟩
theorem pe_xfH {te : TE} {n : Str} (he : PE X e te) (hb : autoParam (attributeBase e n X.env (eval e X.env) = eval e X.env) aRfl) : PE X (.Attribute e n pos) (fun σ H Q => te σ H fun x H1 => ∃ (a C dx : Addr) (fs : List (Str × V)) (v : V), x = .ref a ∧ H1 a = some (ErrO (.ref C) (some dx) a) ∧ H1 dx = some (.xd fs) ∧ ExcC X.K C ∧ PySem.W.findIn X.K (.ref C) n = some none ∧ fs.lookup n = some v ∧ Q v H1) := by
  refine ⟨fun pins s σ H Q I h => ?_⟩
  refine attr_of hb (thn (he.run pins s σ H _ I h) fun u s1 hh => ?_)
  obtain ⟨x, H1, I1, rx, ad, C, dx, fs, v, ex, ha, hd, T, hno, l, q⟩ := hh
  subst ex
  obtain rfl : u = Value.ref ad := rx
  have x : ObjOk X.prog X.w H1 s1.heap ad (ErrO (.ref C) (some dx) ad) := I1.hok ad _ ha
  obtain ⟨⟨oe, vs, hget, hz, hv⟩, _⟩ := x
  have no : PySem.W.notCls oe = true := by unfold PySem.W.notCls; rw [hv] <;> rfl
  have hx : ObjOk X.prog X.w H1 s1.heap dx (.xd fs) := I1.hok dx _ hd
  obtain ⟨mA, hns, hr⟩ := hx
  obtain ⟨od, ho, hl⟩ := lookIn_ns hns
  obtain ⟨u, hu, ru⟩ := RelO.some_of (v := v) (o := mA n) (by rw [← l]; exact hr n)
  have J : PySem.W.InstAt s1.heap ad oe C (some od) := ⟨hget, hz.1, no, by rw [hz.2]; exact ho⟩
  exact HandSPX.exc_get I1.kIn J T.hg T.hk T.hs (PySem.W.findObj_own T.hd hno rfl (by rw [hl, hu])) (handed_of ru) ⟨v, H1, I1.tok _, ru, q⟩
noncomputable def XFld (K : PySem.W.Frag) (n f : Str) : Prop := ∀ C, PySem.W.nsIn K mainGlobals n = some (some (.ref C)) → PySem.W.findIn K (.ref C) f = some none
theorem ev_errW {α : Type} [i : Rep α] {x : ErrW α} {n f : Str} (hx : XC X.K X.mg n) (hf : XFld X.K n f) (h : EV X Γ e x) (hn : autoParam (x.cls = n) aRfl) (hfx : autoParam (x.fld = f) aRfl) (hb : autoParam (attributeBase e f X.env (eval e X.env) = eval e X.env) aRfl) : EV X Γ (.Attribute e f pos) x.why := fun B F H σ Q L q =>
  WE.of (pe_xfH peW hb) (h B F H σ _ L fun v F1 H1 e1 r1 => by
    obtain ⟨C, xC, gC⟩ := hx
    obtain ⟨dx, w, ⟨ad, C', rfl, ha, hC⟩, hd, r⟩ := r1
    rw [hn] at hC
    obtain rfl := ns_one xC.ns hC
    have s1 := (L.step e1).same
    exact ⟨ad, C', dx, _, w, rfl, s1 _ _ ha, s1 _ _ hd, xC.is, hf C' xC.ns, by rw [hfx]; simp [List.lookup], q w F1 H1 e1 r⟩)
class NonN (α : Type) [i : Rep α] : Prop where
  nn : ∀ {K F v} {x : α}, i.rp K F v x → v ≠ .non
noncomputable instance : NonN Int := ⟨fun {_ _ v x} h z => by obtain rfl : v = .int x := h; cases z⟩
noncomputable instance : NonN Bool := ⟨fun {_ _ v x} h z => by obtain rfl : v = .bl x := h; cases z⟩
noncomputable instance : NonN (List Nat) := ⟨fun {_ _ v x} h z => by obtain rfl : v = .str (sx x) := h; cases z⟩
noncomputable instance {α : Type} [i : Rep α] : NonN (List α) := ⟨fun h z => by obtain ⟨a, vs, rfl, _⟩ := h; cases z⟩
noncomputable instance {α : Type} [i : Rep α] : NonN (Tup α) := ⟨fun h z => by obtain ⟨a, vs, rfl, _⟩ := h; cases z⟩
noncomputable instance {α β : Type} [i : Rep α] [j : Rep β] : NonN (α × β) := ⟨fun h z => by obtain ⟨a, u, w, rfl, _⟩ := h; cases z⟩
noncomputable instance : NonN Err := ⟨fun h z => by obtain ⟨a, u, rfl, _⟩ := h; cases z⟩
noncomputable instance {α : Type} [i : Rep α] : NonN (ErrW α) := ⟨fun h z => by obtain ⟨a, u, ⟨_, _, rfl, _⟩, _⟩ := h; cases z⟩
theorem o_isNo {x : α} [NonN α] : OB X (compareOp .Is) x () false := ob_flat op_isN fun F H v u Q s r1 r2 q => ⟨r2, by
  rw [decide_eq_false (NonN.nn r1)]
  exact q _ rfl⟩
theorem o_notNo {x : α} [NonN α] : OB X (compareOp .IsNot) x () true := ob_flat op_notN fun F H v u Q s r1 r2 q => ⟨r2, by
  rw [decide_eq_false (NonN.nn r1)]
  exact q _ rfl⟩
theorem o_isU : OB X (compareOp .Is) () () true := ob_flat op_isN fun F H v u Q s r1 r2 q => ⟨r2, by
  obtain rfl : v = .non := r1
  exact q _ rfl⟩
theorem o_notU : OB X (compareOp .IsNot) () () false := ob_flat op_notN fun F H v u Q s r1 r2 q => ⟨r2, by
  obtain rfl : v = .non := r1
  exact q _ rfl⟩
theorem o_isO {x : Option α} [NonN α] : OB X (compareOp .Is) x () x.isNone := by
  cases x with
  | none => exact fun F H v u Q s r1 r2 => o_isU F H v u Q s r1 r2
  | some x => exact fun F H v u Q s r1 r2 => o_isNo (x := x) F H v u Q s r1 r2
theorem o_notO {x : Option α} [NonN α] : OB X (compareOp .IsNot) x () x.isSome := by
  cases x with
  | none => exact fun F H v u Q s r1 r2 => o_notU F H v u Q s r1 r2
  | some x => exact fun F H v u Q s r1 r2 => o_notNo (x := x) F H v u Q s r1 r2
theorem ev_un {x : α} (h : EV X Γ e (some x)) : EV X Γ e x := fun B F H σ Q L q => h B F H σ Q L fun v F' H' ex r => q v F' H' ex r
noncomputable def EXX (X : Cx) (Γ : List Slot) (e : Expr) (P : Ret → Prop) (R : Exn → Prop) : Prop :=
  ∀ B F H σ Q, Lc X.K B F H σ Γ → (∀ r v F' H', P r → Ext F H F' H' → ROk X.K (Nw H) F' H' v r → Q v H') → (∀ x u d F' H', R x → Ext F H F' H' → XOk X.K (Nw H) F' H' u d x → XW X u d σ H') → WE X e σ H Q
theorem exx_call {n : Str} {k : Nat} {ps : List Str} {S : Spec} {A : List Slot} {P : Ret → Prop} {R : Exn → Prop} (G : Has X.prog X.w X.K X.mg X.base k n ps S) (hr : Room k X.A) (ha : EA X Γ (e :: es) A)
    (hS : ∀ P' R', (∀ r, P r → P' r) → (∀ x, R x → R' x) → S A P' R') (hg : autoParam (Gl X n) aRfl) (hd : autoParam ((n == ("__debug__" : Str)) = false) aDec)
    (he : autoParam (starEach (e :: es) X.env = (false, eval e X.env) :: starEach es X.env) aStar) (hpl : autoParam ((backTo pos (starEach es X.env)).any (·.1) = false) aPl) : EXX X Γ (.Call (.Name n p) (e :: es) [] pos) P R := fun B F H σ Q L q z => by
  obtain ⟨f, fd, hm, hk, hb, G⟩ := G.ex
  refine WE.of (pe_callS (E := fun σ cls d H => XW X cls d σ H) G hr hg hm hk hb (fun σ => passAtm takesW σ) paW hd he hpl) (ha B F H σ _ L fun vs F1 H1 e1 r1 => ?_)
  exact ⟨F1, A, (L.step e1).same, r1.toO, r1.apart, hS _ _ (fun r hr v F2 H2 e2 ok => q r v F2 H2 hr (e1.thenM e2 fun _ m => (r1.ma m).elim) (ok.imp fun b h => e1.hs.free (h.elim id fun m => (r1.ma m).elim))) fun x hx u d F2 H2 e2 ok => z x u d F2 H2 hx (e1.thenM e2 fun _ m => (r1.ma m).elim) (ok.imp fun b h => e1.hs.free (h.elim id fun m => (r1.ma m).elim))⟩
theorem st_setR (k : Nat) {n : Str} {R : Exn → Prop} (he : EXX X Γ e (fun _ => False) R) (hR : ∀ x, R x → E.ex Γ x) (hN : X.N.Nodup) (hi : autoParam (X.N[k]? = some n) aRfl) (hx : autoParam (L2.Loc X.env.scope n) aLoc)
    (hs : autoParam (swapsWith e (some (.Name n p)) pos.line X.env = pure false) aRfl) (hf : autoParam (X.fn n = true ∨ X.env.scope.names.lookup n = some .local) Tw.aFn) : ST X (.Assign [.Name n p] e pos :: rest) Γ E := fun B F H σ D L ed =>
  WP.cons (ps_set hN hi hx peW hs hf) (he B F H σ _ L (fun r v F1 H1 er e1 r1 => er.elim) fun x u d F1 H1 hx e1 ok => ed.exS (Same.refl F) (hR x hx) L e1 ok)
theorem st_retX {P : Ret → Prop} {R : Exn → Prop} (he : EXX X Γ e P R) (hP : ∀ r, P r → E.rt r) (hR : ∀ x, R x → E.ex Γ x) : ST X (.Return (some e) pos :: rest) Γ E := fun B F H σ D L ed =>
  WP.cons (ps_ret peW) (he B F H σ _ L (fun r v F1 H1 hr e1 ok => ed.rt r v F1 H1 (hP r hr) (L.step e1).ext (ok.imp fun b h => L.nw h)) fun x u d F1 H1 hx e1 ok => ed.exS (Same.refl F) (hR x hx) L e1 ok)
theorem raisesX {n : Str} {C : Addr} (x : XCls X.K n C) : Raises X (.ref C) := raises_own x.is.hs x.ty
theorem st_raise0 {n m : Str} {j : Nat} {p1 p3 : Pos} (hc : XC X.K X.mg n) (hp : XPlain X.K n) (hE : E.ex Γ ⟨n, "", .no⟩) (hcalm : autoParam (X.calm = true) aRfl) (hg : autoParam (Gl X n) aRfl) (hdb : autoParam ((n == ("__debug__" : Str)) = false) aDec) :
    ST X (.Raise (some (.Call (.Name n p) [.Constant (.str m) j p2] [] p1)) none p3 :: rest) Γ E := fun B F H σ D L ed => by
  obtain ⟨C, xC, gC⟩ := hc
  refine WP.cons (L2N.ps_raise hcalm takesWn (L2N.pmk_own PySem.F.excBase_ValueError (hp C xC.ns) gC xC.kp (raisesX xC) hg hdb)) ?_
  exact ed.exS (Same.refl F) hE L (Ext.refl L.same) ⟨C, rfl, xC.ns, rfl⟩
noncomputable def InitSp (K : PySem.W.Frag) (C : Addr) (fld : Str) : Sp := fun vs H Q E => ∃ (a : Addr) (v : V), vs = [.ref a, v] ∧ H a = some (exo a C none) ∧ ∀ dx, H dx = none → dx ≠ a → Q .non (upd (upd H dx (exd dx [(fld, v)])) a (exo a C (some dx)))
structure XInit (P : Program) (w : World) (K : PySem.W.Frag) (mg : Str → Option Value) (base : Heap) (k : Nat) (n fld : Str) : Prop where
  ex : ∀ C, PySem.W.nsIn K mainGlobals n = some (some (.ref C)) → OexC K C ∧ ∃ (fI : Addr) (fd : FuncData) (ps : List Str), PySem.W.findIn K (.ref C) "__init__" = some (some (.ref fI)) ∧ PySem.W.typeIn K (.ref fI) = some (.type "function") ∧ Binds K fd ps [] ∧ FnOk P w K mg base (CXm P w K) k fI fd ps (InitSp K C fld)
theorem st_raise1 {n fld : Str} {y : α} {k : Nat} {p1 p3 : Pos} (hc : XC X.K X.mg n) (hi : XInit X.prog X.w X.K X.mg X.base k n fld) (hr : Room (k + 1) X.A) (he : EV X Γ e y) (hE : E.ex Γ ⟨n, fld, .val i y⟩) (hcalm : autoParam (X.calm = true) aRfl) (hg : autoParam (Gl X n) aRfl) (hdb : autoParam ((n == ("__debug__" : Str)) = false) aDec)
    (hs : autoParam (starEach [e] X.env = (false, eval e X.env) :: starEach [] X.env) aStar) (hpl : autoParam ((backTo p1 (starEach [] X.env)).any (·.1) = false) aPl) :
    ST X (.Raise (some (.Call (.Name n p) [e] [] p1)) none p3 :: rest) Γ E := fun B F H σ D L ed => by
  obtain ⟨C, xC, gC⟩ := hc
  obtain ⟨T, fI, fd, ps, iC, tI, hb, F1⟩ := hi.ex C xC.ns
  refine WP.cons (ps_raise hcalm takesWf (pmk_oex T iC tI F1 hr hb .nil passLm hg gC paW hdb hs hpl)) ?_
  refine ea_cons he ea_nil hs B F H σ _ L fun vs F1 H1 e1 r1 => ?_
  match vs, r1 with
  | [w], ⟨rw1, _⟩ =>
  refine ⟨by show 1 ≤ 1000; decide, fun a ha => ⟨a, w, rfl, upd_same, fun dx hdx hne => ⟨rfl, dx, [(fld, w)], upd_same, by rw [upd_ne hne, upd_same], ?_, ?_⟩⟩⟩
  · rw [upd_ne hne] at hdx; exact hdx
  · have hd1 : H1 dx = none := by rw [upd_ne hne] at hdx; exact hdx
    have s1 := (L.step e1).same
    have eq : upd (del (upd (upd (upd H1 a (exo a C none)) dx (exd dx [(fld, w)])) a (exo a C (some dx))) a) dx (.xd [(fld, w)]) = upd H1 dx (.xd [(fld, w)]) := by
      funext b
      by_cases hbd : b = dx
      · subst hbd; rw [upd_same, upd_same]
      · rw [upd_ne hbd, upd_ne hbd]
        by_cases hba : b = a
        · subst hba; rw [del_same, ha]
        · rw [del_ne hba, upd_ne hba, upd_ne hbd, upd_ne hba]
    rw [eq]
    have e2 := Ext.apart (o := .xd [(fld, w)]) s1 hd1
    refine ⟨⟨_, iC⟩, ed.exS (Same.refl F) hE L (e1.trans e2) ⟨C, rfl, xC.ns, dx, w, rfl, e1.hs.free hd1, s1.free hd1, upd_same, rw1⟩⟩
end
section
variable {P : Program} {w : World} {K : PySem.W.Frag} {mg : Str → Option Value} {base : Heap}
theorem Has.ofX {n : Str} {st : Stmt} {N ps : List Str} {k : Nat} {S : Spec} (D : Df K mg n st ps) (sc : FnScope N ps (defScope st)) (len : ∀ A Q R, S A Q R → A.length = ps.length)
    (body : ∀ (f : Addr) (cdv : Value) (A : Around) (outer : List Env) (s : Shared) (H : Hp) (E : XK), Room k (A.deeper (envOfC n (defScope st) s.heap.objs.size f cdv)) → ∀ Γ Q R, S Γ Q R →
      ST (cxOf (CXm P w K) P w K mg base N n (defScope st) f cdv A outer s H E) (defBody st) (Γ ++ List.replicate (N.length - ps.length) .no) (finX Q R)) :
    Has P w K mg base (k + 1) n ps S := by
  obtain ⟨f, fd, F, hb, hm⟩ := D.ex
  refine ⟨f, fd, hm, F.kp, hb, F.okM sc (fun vs H Q E ⟨F0, A, s, r, ap, h⟩ => ?_) (fun cdv A outer s H vs Q E hr h => ?_)⟩
  · rw [r.len]; exact len _ _ _ h
  · obtain ⟨F0, A0, sm, r, ap, h⟩ := h
    refine ⟨_, psW, ?_⟩
    have hl := len _ _ _ h
    have L0 := lc_start (K := K) sm r ap (N.length - ps.length)
    have L1 : Lc K ⟨F0, H, MA A0⟩ F0 H (L2.start N vs) (A0 ++ List.replicate (N.length - ps.length) .no) := by
      unfold L2.start
      rw [show vs.length = ps.length from r.len.trans hl]
      exact L0
    refine body f cdv A outer s H E hr A0 _ _ h ⟨F0, H, MA A0⟩ F0 H _ _ L1 ⟨fun F' H' σ' Γ' _ hq L => ?_, fun r v F' H' hq ex ok => hq v F' H' ex ok, fun _ _ _ _ _ z => z.elim, fun _ _ _ _ _ z => z.elim, fun F1 H1 σ' Γ' x u d _ hq L ok => ?_⟩
    · exact hq .non F' H' L.ext rfl
    · exact XW.of (takes_ofm rfl rfl rfl rfl) (hq u d F1 H1 L.ext (ok.imp fun b h => h.1))
end
end Tw
namespace Tw
open PySem PySem.Spec PyProof.Rows L2 TL
section
variable {X : Cx} {pins : List (Addr × Obj)} {σ : L2.St} {H : Hp} {s : Shared}
theorem inv_suite (I : Inv X pins σ H s) (a : Addr) : Inv (X.suite a (X.pn ++ pins)) [] σ H s :=
  ⟨I.ok.suite _ _, I.os, I.bare, I.base, I.loc, I.cell, I.free, I.freeC, fun p hp => I.pin p (by rw [List.append_nil] at hp; exact hp), I.hok, I.len⟩
theorem inv_unsuite {a : Addr} {pn' : List (Addr × Obj)} (I : Inv (X.suite a (X.pn ++ pins)) pn' σ H s) (ok : X.Ok) : Inv X pins σ H s :=
  ⟨ok, I.os, I.bare, I.base, I.loc, I.cell, I.free, I.freeC, fun p hp => I.pin p (List.mem_append_left _ hp), I.hok, I.len⟩
theorem inv_caught {a : Addr} {cls : Value} {d : Option Addr} {oe : Obj} {vs : Array Value} {s0 : Shared} (I : Inv X pins σ H s) (J : Inv X pins σ H s0) (h0 : s0.heap.get? a = none) (na : H a = none) (nL : a ≠ X.env.locals) (e : s.heap.get? a = some oe) (z : Zc cls d oe) (hd : oe.data = .fields vs) : Inv X pins σ (upd H a (ErrO cls d a)) s := by
  have n0 : ∀ b o, X.s_0.heap.get? b = some o → b ∉ X.ex → b ≠ a := fun b o q hx z => by
    subst z
    obtain ⟨o', q'⟩ := J.base.there b o q hx
    rw [h0] at q'; cases q'
  have nH : ∀ b o, H b = some o → b ≠ a := fun b o q z => by rw [z, na] at q; cases q
  refine ⟨I.ok, I.os, I.bare, ⟨I.base.keep, I.base.slot, fun b o q n hx => ?_, I.base.there, fun b xs q => ?_, fun b o v q => ?_, fun b ps q => ?_⟩, I.loc, I.cell, ?_, fun x c q => ?_, fun p hp => ?_, ?_, I.len⟩
  · rw [upd_ne (n0 b o q hx)]; exact I.base.free b o q n hx
  · have := I.base.tups b xs q
    rw [upd_ne (nH _ _ this)]; exact this
  · have := I.base.frzs b o v q
    rw [upd_ne (nH _ _ this)]; exact this
  · obtain ⟨m, this⟩ := I.base.tbls b ps q
    exact ⟨m, by rw [upd_ne (nH _ _ this)]; exact this⟩
  · rw [upd_ne (Ne.symm nL)]; exact I.free
  · have nc : c ≠ a := fun y => by
      obtain ⟨v, o', q1, q2⟩ := I.cell x c q
      rw [y, e] at q1
      cases q1
      rw [hd] at q2; cases q2
    rw [upd_ne nc]; exact I.freeC x c q
  · obtain ⟨p1, p2, p3, p4, p5⟩ := I.pin p hp
    obtain ⟨q1, _⟩ := J.pin p hp
    have np : p.1 ≠ a := fun y => by rw [y, h0] at q1; cases q1
    exact ⟨p1, by rw [upd_ne np]; exact p2, p3, p4, p5⟩
  · intro b o q
    by_cases hb : b = a
    · subst hb
      rw [upd_same] at q
      cases q
      exact errO_ok e z hd
    · rw [upd_ne hb] at q
      exact (I.hok b o q).stay (fun _ _ _ r => r) (fun c r => by rw [upd_ne (nH _ _ r)]; exact r) fun c xs r => by rw [upd_ne (nH _ _ r)]; exact r
end
noncomputable def wKept (K : PySem.W.Frag) (c : Value) (i : Nat) (ts : Addr → TS) (Wout : WX) (D : Ends) : WX := fun cls d σ H =>
  ∃ b, PySem.W.exmOne K cls c = some b ∧ (b = true → ∀ a, H a = none → ts a { nx := fun σ' H' => D.nx (σ'.set i none) H', rt := D.rt, bk := fun σ' H' => D.bk (σ'.set i none) H', ct := fun σ' H' => D.ct (σ'.set i none) H' } (σ.set i (some (.ref a))) (upd H a (ErrO cls d a))) ∧
    (b = false → Wout cls d σ H)
section
variable {X : Cx} {x n : Str} {c : Value} {i : Nat} {body suite : List Stmt} {b₀ : Stmt} {np pos pos' : Pos} {tb : WX → TS} {ts : Addr → TS} {Wout : WX}
theorem ps_try_kept (hs : X.stack = X.env :: X.outer) (hf : X.env.frame = some X.env.locals) (hN : X.N.Nodup) (hi : X.N[i]? = some n) (hln : X.env.kindOf n = some .local) (hc : Names X x c) (tk : Takes X Wout)
    (hb : ∀ (W : WX) (pn : List (Addr × Obj)) (xe : Value → Shared → Prop), Takes (X.tr pn xe) W → PassesOwn (model X.prog X.w) X.A X.env xe → PSs (X.tr pn xe) body (tb W))
    (hsu : ∀ (a : Addr) (pn : List (Addr × Obj)), PSs (X.suite a pn) (b₀ :: suite) (ts a)) :
    PS X (.Try body [.ExceptHandler (some (.Name x np)) (some n) (b₀ :: suite) pos'] [] [] pos) (fun D σ H => tb (wKept X.K c i ts Wout D) D σ H) := by
  refine ⟨fun pins s σ H D I h => ?_⟩
  have ok := I.ok
  have hfr : X.A.frames = some (X.env :: X.outer) := by rw [ok.frames, hs]
  have hloc : L2.Loc X.env.scope n := .inl hln
  refine wpAny_Try_except ?_
  refine wpAny_mono ((hb (wKept X.K c i ts Wout D) (X.pn ++ pins) (fun e s₁ => wpAny (model X.prog X.w) X.A (noteFrame e X.env) (fun _ s₂ => wpAny (model X.prog X.w) X.A (setFlight e none) (fun _ s₃ =>
    wpAny (model X.prog X.w) X.A (handleBy e X.env [.ExceptHandler (some (.Name x np)) (some n) (b₀ :: suite) pos']) (SP X pins D) X.xe s₃) X.xe s₂) X.xe s₁) (fun u s' xx => ?_) PassesOwn.looking).run [] s σ H D (I.toTry _) h) (fun f s1 hsp => ?_) (fun e s1 he => he)
  · obtain ⟨a, B, sI, pins', σ', H', cls, d, rfl, J', nb, up, sky, na, os, ag, b, hb1, hyes, hno⟩ := xx
    have J : Inv X pins σ' H' sI := J'.ofTry ok
    have sky' : Sky B (X.env :: X.outer) a (Zc cls d) X.env.locals s'.heap := by rw [← hs]; exact sky
    show wpAny (model X.prog X.w) X.A (noteFrame (.ref a) X.env) _ _ _
    refine Sky.land Zc.steady hfr hf sky' fun h3 fl3 up3 => ?_
    have J3 : Inv X pins σ' H' { s' with heap := h3 } := J.landed nb fl3.1 (up.trans up3) os ag
    obtain ⟨oe3, vs3, he3, hz3, hd3⟩ := fl3.there
    have notFr : ∀ {h : Heap} {o : Obj} {vs : Array Value}, h.FunFrames B (X.env :: X.outer) → h.get? a = some o → o.data = .fields vs → a ∉ frs (X.env :: X.outer) := fun {h o vs} ff e dd hm => by
      obtain ⟨_, o', e', hnf⟩ := ff.mem hm
      rw [e] at e'; cases e'
      exact hnf _ dd
    have nfr := notFr fl3.2.2.1 he3 hd3
    have nL : a ≠ X.env.locals := fun z => nfr (List.mem_filterMap.mpr ⟨X.env, List.mem_cons_self, by rw [hf, z]⟩)
    have nF : a ∉ X.fs := fun hm => by
      obtain ⟨e, he, q⟩ := List.mem_filterMap.mp hm
      exact nfr (List.mem_filterMap.mpr ⟨e, List.mem_cons_of_mem _ he, q⟩)
    have nI : sI.heap.get? a = none := by
      cases q : sI.heap.get? a with
      | none => rfl
      | some o =>
        have z := nb a o q (by rw [hs]; exact nfr)
        rw [fl3.2.1] at z; cases z
    have S3 := J3.suite he3 hd3 na nL nF
    refine wpAny_handleBy_cons (codeAny_handlers_test ?_) (by intro q; cases q)
    have LT : PySem.W.Looks (model X.prog X.w) h3 (typeOf (.ref a)) cls := fun A Q E s k q => wpAny_typeOf_ref (k _ _ he3) (by rw [hz3.1]; exact q)
    have LM := PySem.W.exm_one (M := model X.prog X.w) (J3.kIn) LT hb1
    have test : ∀ {Q : Value → Shared → Prop} {E : Value → Shared → Prop}, Q c { s' with heap := h3 } → wpAny (model X.prog X.w) (X.A.mark (some (.ref a))) (eval (.Name x np) X.env) Q E { s' with heap := h3 } := fun {Q E} q => by
      obtain ⟨hg, hdbg, hm | ⟨hm, hv, hnn⟩⟩ := hc
      · exact ld_glob (X := X.suite a ((a, oe3) :: (X.pn ++ pins))) S3 hg hm q hdbg
      · exact ld_blt (X := X.suite a ((a, oe3) :: (X.pn ++ pins))) S3 hg hm hv q hnn hdbg
    refine test (LM.here ?_)
    cases b with
    | true =>
      refine codeAny_handlers_suite_as ?_
      refine HandSPX.lands_againZ fl3 fun h4 fl4 up4 => ?_
      have J4 : Inv X pins σ' H' { s' with heap := h4 } := J.landed nb fl4.1 ((up.trans up3).trans up4) os ag
      obtain ⟨oe4, vs4, he4, hz4, hd4⟩ := fl4.there
      have JT : Inv X pins σ' (upd H' a (ErrO cls d a)) { s' with heap := h4 } := inv_caught J4 J nI na nL he4 hz4 hd4
      have S4 := inv_suite JT a
      refine store_ok (X := X.suite a (X.pn ++ pins)) (v := .ref a) S4 hN hi hloc rfl (fun s5 S5 => ?_) (.inr hln)
      refine wpAny_mono ((hsu a (X.pn ++ pins)).run [] s5 _ _ _ S5 (hyes rfl a na)) (fun f s6 hsp => ?_) (fun _ _ z => False.elim z)
      have end_ : ∀ {σ6 : L2.St} {H6 : Hp} {Q : Shared → Prop}, Inv (X.suite a (X.pn ++ pins)) [] σ6 H6 s6 → (∀ s7, Inv X pins (σ6.set i none) H6 s7 → Q s7) →
          wpAny (model X.prog X.w) X.A (do bindName X.env n .none; unbindBehindTheSuite X.env n pos') (fun _ s7 => Q s7) X.xe s6 := fun {σ6 H6 Q} S6 hq => gone_ok (inv_unsuite S6 ok) hN hi hln hq
      cases f with
      | next =>
        obtain ⟨σ6, H6, S6, q6⟩ := hsp
        exact end_ S6 fun s7 J7 => ⟨_, _, J7, q6⟩
      | brk =>
        obtain ⟨σ6, H6, S6, q6⟩ := hsp
        exact end_ S6 fun s7 J7 => ⟨_, _, J7, q6⟩
      | cont =>
        obtain ⟨σ6, H6, S6, q6⟩ := hsp
        exact end_ S6 fun s7 J7 => ⟨_, _, J7, q6⟩
      | ret u =>
        obtain ⟨v6, σ6, H6, S6, r6, q6⟩ := hsp
        exact end_ S6 fun s7 J7 => ⟨_, _, _, J7, r6, q6⟩
    | false =>
      show wpAny _ X.A (handleBy (.ref a) X.env []) _ _ _
      refine wpAny_handleBy_nil ?_
      obtain ⟨k1, k2, k3, oe, vs, T, oT, ts', he, hz, hd, h1, hr⟩ := id fl3
      unfold PySem.passOn
      refine wpAny_bind (wpAny_field he hd h1 ?_)
      rw [if_neg (show ¬ ((Value.ref T == Value.none) = true) from by simp)]
      have fin : wpAny (model X.prog X.w) X.A (setFlight (.ref a) X.env.frame) (fun _ s4 => wpAny (model X.prog X.w) X.A (throw (.ref a) : Sem Flow) (SP X pins D) X.xe s4) X.xe { s' with heap := h3 } := by
        rw [hf]
        refine HandSPX.setFlight_upZ fl3 fun h4 hh4 up4 => wpAny_throw (tk _ _ ?_)
        exact ⟨a, B, sI, pins, σ', H', cls, d, rfl, J, nb, (up.trans up3).trans up4, .inr (.inr (by rw [hs]; exact hh4)), na, os, ag, hno rfl⟩
      first
        | exact wpAny_bind (wpAny_pure (wpAny_bind fin))
        | exact wpAny_bind fin
  · cases f with
    | next =>
      obtain ⟨σ', H', J', q⟩ := hsp
      exact wpAny_execs_nil ⟨σ', H', J'.ofTry ok, q⟩
    | brk =>
      obtain ⟨σ', H', J', q⟩ := hsp
      exact ⟨σ', H', J'.ofTry ok, q⟩
    | cont =>
      obtain ⟨σ', H', J', q⟩ := hsp
      exact ⟨σ', H', J'.ofTry ok, q⟩
    | ret u =>
      obtain ⟨v, σ', H', J', r, q⟩ := hsp
      exact ⟨v, σ', H', J'.ofTry ok, r, q⟩
end
section
variable {X : Cx} {Γ : List Slot} {α β γ : Type} {pos pos' np p p2 : Pos} {E : SE} {rest body suite : List Stmt} {b₀ : Stmt}
theorem Lc.caught {K : PySem.W.Frag} {B : Bs} {F H : Hp} {σ : L2.St} {Γ : List Slot} {C : Value} {d : Option Addr} {x : Exn} {a : Addr} (L : Lc K B F H σ Γ) (ok : XOk K (fun b => B.nw b ∧ Free Γ b) F H C d x) (ha : H a = none) :
    ∃ F3, Same F F3 ∧ Lc K B F3 (upd H a (ErrO C d a)) σ Γ ∧ SlotOk K B F3 (upd H a (ErrO C d a)) (some (.ref a)) x.slot := by
  obtain ⟨C, rfl, hC, h⟩ := ok
  obtain ⟨cls, fld, why⟩ := x
  cases why with
  | no =>
    have hd : d = none := h
    subst hd
    have e2 := Ext.new (o := ErrO (.ref C) none a) L.same ha
    exact ⟨_, e2.ff, L.step e2, .ref a, rfl, a, C, rfl, upd_same, hC⟩
  | own o => exact h.elim
  | val i y =>
    obtain ⟨dx, w, rfl, ⟨nb, nf⟩, fd, hd2, r⟩ := h
    have sm : Same F (upd F dx (.xd [(fld, w)])) := fun b u q => by rw [upd_ne (ne_of_none q fd)]; exact q
    have sm2 : Same (upd F dx (.xd [(fld, w)])) H := fun b u q => by
      by_cases hb : b = dx
      · subst hb; rw [upd_same] at q; rw [← q]; exact hd2
      · rw [upd_ne hb] at q; exact L.same _ _ q
    have L1 : Lc K B (upd F dx (.xd [(fld, w)])) H σ Γ := by
      refine ⟨⟨L.ext.ff.trans sm, sm2, L.ext.hh, fun b hm h1 h2 => ?_, L.ext.th⟩, L.len, fun q t hq => ?_, L.ap⟩
      · have : b ≠ dx := fun z => by
          subst z
          exact nb.elim (fun z => h2 z) hm
        rw [upd_ne this]; exact L.ext.nwM b hm h1 h2
      · have old := L.ok q t hq
        cases t with
        | no => trivial
        | val i x => obtain ⟨v, e2, r⟩ := old; exact ⟨v, e2, i.mono sm r⟩
        | own o2 =>
          obtain ⟨u, eu, ok2, f2⟩ := old
          exact ⟨u, eu, o2.stay sm (fun _ _ _ h => h) ok2, fun b hb => ⟨by rw [upd_ne (fun (z : b = dx) => nf q o2 hq (by rw [← z]; exact hb))]; exact (f2 b hb).1, (f2 b hb).2⟩⟩
    have e2 := Ext.new (o := ErrO (.ref C) (some dx) a) sm2 ha
    refine ⟨_, sm.trans e2.ff, L1.step e2, .ref a, rfl, dx, w, ⟨a, C, rfl, upd_same, hC⟩, ?_, i.mono (sm.trans e2.ff) r⟩
    rw [upd_ne (fun z => by subst z; rw [ha] at hd2; cases hd2), upd_same]
noncomputable def FrX (K : PySem.W.Frag) (y : Exn) : Prop := ∀ C, PySem.W.nsIn K mainGlobals y.cls = some (some (.ref C)) → FrC K (.ref C)
theorem exn_own (x : Exn) : x.slot.isOwn = false := by
  obtain ⟨cls, fld, why⟩ := x
  cases why <;> rfl
theorem st_try (m : Nat) {x n : Str} (hN : X.N.Nodup) (hc : XC X.K X.mg x)
    (hb : ∀ pn xe, PassesOwn (model X.prog X.w) X.A X.env xe → ST (X.tr pn xe) body Γ { E with nx := fun Γ' => ST X rest Γ' E, ex := fun Γ' y => (XSub X.K y.cls x true ∧ ∀ a pn, ST (X.suite a pn) (b₀ :: suite) (Γ'.set m y.slot)
        { nx := fun Γ2 => ST X rest (Γ2.set m .no) E, rt := E.rt, bk := fun Γ2 => E.bk (Γ2.set m .no), ct := fun Γ2 => E.ct (Γ2.set m .no), ex := fun _ _ => False }) ∨ (XSub X.K y.cls x false ∧ FrX X.K y ∧ E.ex Γ' y) })
    (hi : autoParam (X.N[m]? = some n) aRfl) (hln : autoParam (X.env.kindOf n = some .local) aRfl) (hg : autoParam (Gl X x) aRfl) (hdb : autoParam ((x == ("__debug__" : Str)) = false) aDec) (hs : autoParam (X.stack = X.env :: X.outer) aRfl) (hf : autoParam (X.env.frame = some X.env.locals) aRfl) :
    ST X (.Try body [.ExceptHandler (some (.Name x np)) (some n) (b₀ :: suite) pos'] [] [] pos :: rest) Γ E := fun B F H σ D L ed => by
  obtain ⟨C, xC, gC⟩ := hc
  refine WP.cons (ps_try_kept (tb := fun W D σ H => ∀ pn xe, Takes (X.tr pn xe) W → PassesOwn (model X.prog X.w) X.A X.env xe → WP (X.tr pn xe) body D σ H) (ts := fun a D σ H => ∀ pn, WP (X.suite a pn) (b₀ :: suite) D σ H) hs hf hN hi hln ⟨hg, hdb, .inl gC⟩ takesWf
    (fun W pn xe tk hp => ⟨fun pins s σ H D I h => (h pn xe tk hp).go pins s I⟩) (fun a pn => ⟨fun pins s σ H D I h => (h pn).go pins s I⟩)) ?_
  intro pn xe tk hp
  refine hb pn xe hp B F H σ _ L ⟨fun F1 H1 σ1 Γ1 s1 h1 L1 => h1 B F1 H1 σ1 D L1 (ed.weak s1), ed.rt, ed.bk, ed.ct, fun F1 H1 σ1 Γ1 y u d s1 h1 L1 ok => XW.of (takesm_of tk) ?_⟩
  obtain ⟨Cy, eu, nCy, _⟩ := id ok
  rcases h1 with ⟨hsub, hsu⟩ | ⟨hsub, hfr, hE⟩
  · subst eu
    refine ⟨true, (hsub Cy C nCy xC.ns).1, fun _ a ha pn => ?_, fun z => nomatch z⟩
    obtain ⟨F3, s3, L3, so⟩ := L1.caught ok ha
    have L4 : Lc X.K B F3 _ (σ1.set m (some (.ref a))) (Γ1.set m y.slot) := L3.put m (exn_own y) so
    refine hsu a pn B F3 _ _ _ L4 ⟨fun F5 H5 σ5 Γ5 s5 h5 L5 => ?_, ed.rt, fun F5 H5 σ5 Γ5 s5 h5 L5 => ?_, fun F5 H5 σ5 Γ5 s5 h5 L5 => ?_, fun _ _ _ _ _ _ _ _ z => z.elim⟩
    · exact h5 B F5 H5 _ D (L5.putN m none) (ed.weak ((s1.trans s3).trans s5))
    · exact ed.bk F5 H5 _ _ ((s1.trans s3).trans s5) h5 (L5.putN m none)
    · exact ed.ct F5 H5 _ _ ((s1.trans s3).trans s5) h5 (L5.putN m none)
  · subst eu
    exact ⟨false, (hsub Cy C nCy xC.ns).1, (fun z => nomatch z), fun _ => ⟨hfr _ nCy, ed.ex F1 H1 σ1 Γ1 y _ d s1 hE L1 ok⟩⟩
end
end Tw
namespace Tw
open PySem PySem.Spec PyProof.Rows L2 TL
section
variable {X : Cx} {Γ : List Slot} {α β γ : Type} {i : Rep α} {j : Rep β} {l : Rep γ} {pos p p2 : Pos} {e a b c elt tg it : Expr} {es : List Expr} {E : SE} {rest body : List Stmt}
noncomputable def enumL {A : Type} (xs : List A) : List (Int × A) := (xs.zipIdx).map fun p => ((p.2 : Int), p.1)
theorem enumL_get {A : Type} {xs : List A} {k : Nat} {x : Int × A} (h : (enumL xs)[k]? = some x) : x.1 = (k : Int) ∧ xs[k]? = some x.2 := by
  unfold enumL at h
  rw [List.getElem?_map, List.getElem?_zipIdx] at h
  cases q : xs[k]? with
  | none => rw [q] at h; cases h
  | some y =>
    rw [q] at h
    have : x = ((k : Int), y) := by simpa using h.symm
    rw [this]
    exact ⟨rfl, rfl⟩
theorem enumL_len {A : Type} {xs : List A} : (enumL xs).length = xs.length := by unfold enumL; simp
theorem src_enum {xs : List α} {elts : List Expr} {kk : Nat} {tpos p2 : Pos} (hm : X.mg "enumerate" = none) (ha : EV X Γ a xs) (hg : autoParam (Gl X "enumerate") aRfl) (hs : autoParam (starEach [a] X.env = [(false, eval a X.env)]) aStar) : Src X Γ (.Tuple elts kk tpos) (.Call (.Name "enumerate" p) [a] [] p2) (enumL xs) :=
  ⟨_, pi_enum hg hm (pa_cons peW pa_nil hs) hs, fun B F H σ R L q => ha B F H σ _ L fun v F1 H1 e1 r1 => by
    obtain ⟨a1, vs, rfl, h1, p1⟩ := r1
    have s2 := (L.step e1).same
    refine ⟨a1, vs, rfl, sq_of s2 h1, q _ F1 H1 e1 fun F3 H3 s3 s4 => ⟨fun k x hx => ?_, vs, sq_of s4 (s3 _ _ h1), ?_⟩⟩
    · obtain ⟨n, y⟩ := x
      obtain ⟨hx1, hx2⟩ := enumL_get hx
      obtain ⟨w1, hw1, r1'⟩ := pgetL p1 hx2
      refine ⟨⟨vs, w1, sq_of s4 (s3 _ _ h1), hw1⟩, fun v H4 hy => ?_⟩
      obtain ⟨T, y1, rfl, hT, rfl, g1⟩ := hy
      have z1 : w1 = y1 := Option.some.inj (hw1.symm.trans (g1 vs (sq_of s4 (s3 _ _ h1))))
      subst z1
      have ea := Ext.new (o := .tup [.int (k : Nat), w1]) s4 hT
      exact ⟨_, ea, T, .int (k : Nat), w1, rfl, upd_same, (show V.int (k : Nat) = V.int n by rw [show n = (k : Int) from hx1]), i.mono (s3.trans ea.ff) r1'⟩
    · rw [enumL_len, Paired.length p1]; exact Nat.le_refl _⟩
theorem en_addL {xs ys : List α} (ha : EV X Γ a xs) (hb : EV X Γ b ys) (hz : xs.length + ys.length ≤ sizeLine) : EN X Γ (.BinOp a .Add b pos) (xs ++ ys) := fun B F H σ Q L q =>
  WE.of (pe_op op_cat peW peW) (ha B F H σ _ L fun v F1 H1 e1 r1 => hb B F1 H1 σ _ (L.step e1) fun u F2 H2 e2 r2 => by
    obtain ⟨a1, vs, rfl, h1, p1⟩ := r1
    obtain ⟨a2, ws, rfl, h2, p2⟩ := r2
    have e12 := e1.trans e2
    have s2 := (L.step e12).same
    refine ⟨a1, a2, vs, ws, rfl, rfl, s2 _ _ (e2.ff _ _ h1), s2 _ _ h2, by rw [Paired.length p1, Paired.length p2]; exact hz, fun p hp => ?_⟩
    exact q p (vs ++ ws) F2 _ (e12.trans (Ext.apart s2 hp)) (e12.hs.free hp) (s2.free hp) upd_same (papp (Paired.mapP p1 fun _ _ z => i.mono e2.ff z) p2))
theorem ev_fst {x : α × β} {k} (ha : EV X Γ a x) (hp : autoParam (PlainIx (.Constant (.int 0) k p)) Tw.aIR2) : EV X Γ (.Subscript a (.Constant (.int 0) k p) pos) x.1 := fun B F H σ Q L q =>
  WE.of (pe_ix ix_tup peW pe_int hp) (ha B F H σ _ L fun v F1 H1 e1 r1 => by
    obtain ⟨ad, u, w, rfl, h1, r1, r2⟩ := r1
    exact ⟨ad, [u, w], 0, u, rfl, rfl, st_of (L.step e1).same h1, rfl, q u F1 H1 e1 r1⟩)
theorem ev_snd {x : α × β} {k} (ha : EV X Γ a x) (hp : autoParam (PlainIx (.Constant (.int 1) k p)) Tw.aIR2) : EV X Γ (.Subscript a (.Constant (.int 1) k p) pos) x.2 := fun B F H σ Q L q =>
  WE.of (pe_ix ix_tup peW pe_int hp) (ha B F H σ _ L fun v F1 H1 e1 r1 => by
    obtain ⟨ad, u, w, rfl, h1, r1, r2⟩ := r1
    exact ⟨ad, [u, w], 1, w, rfl, rfl, st_of (L.step e1).same h1, rfl, q w F1 H1 e1 r2⟩)
theorem MA_cons {s : Slot} {A : List Slot} {b : Addr} (h : MA (s :: A) b) : (∃ o, s = .own o ∧ b ∈ o.fp) ∨ MA A b := by
  obtain ⟨o, h1, h2⟩ := h
  rcases List.mem_cons.mp h1 with z | z
  · exact .inl ⟨o, z.symm, h2⟩
  · exact .inr ⟨o, z, h2⟩
theorem Apart.tail {s : Slot} {A : List Slot} (h : Apart A) (hs : ∀ o, s = .own o → ∀ b ∈ o.fp, ¬ MA A b) : Apart (s :: A) := fun x y o1 o2 hxy h1 h2 b hb1 hb2 => by
  cases x with
  | zero =>
    cases y with
    | zero => exact hxy rfl
    | succ y => exact hs o1 (Option.some.inj h1) b hb1 ⟨o2, List.mem_of_getElem? (by simpa using h2), hb2⟩
  | succ x =>
    cases y with
    | zero => exact hs o2 (Option.some.inj h2) b hb2 ⟨o1, List.mem_of_getElem? (by simpa using h1), hb1⟩
    | succ y => exact h x y o1 o2 (fun z => hxy (by rw [z])) (by simpa using h1) (by simpa using h2) b hb1 hb2
end
end Tw
namespace Tw
open PySem PySem.Spec PyProof.Rows L2 TL
noncomputable def clsBody : Stmt → Nat → Stmt
  | .ClassDef _ _ _ body _ _ _ _ _ _ _, j => body.getD j (.Pass ⟨0, 0, 0, 0⟩)
  | st, _ => st
structure XBase (K : PySem.W.Frag) (mg : Str → Option Value) (n : Str) (D : Addr) : Prop where
  g : mg n = some (.ref D)
  sp : PySem.W.specialIn K (.ref D) "__getattribute__" = some (some (.builtin "type.__getattribute__"))
  rd : PySem.W.readsIn K D (.type "type") = true
  fc : PySem.W.findCls K (.ref D) (.type "type") "__init__" = some (.val (.builtin "ValueError.__init__"))
theorem pe_qinit {X : Cx} {n : Str} {D : Addr} {e : Expr} {es : List Expr} {ta : TA} {p1 p2 pos : Pos} {pl : Sem Bool} (T : XBase X.K X.mg n D) (ha : PA X (e :: es) ta) (hg : autoParam (Gl X n) aRfl) (hd : autoParam ((n == ("__debug__" : Str)) = false) aDec)
    (hc : autoParam (eval (.Call (.Attribute (.Name n p1) "__init__" p2) (e :: es) [] pos) X.env = (do
      let ov ← eval (.Name n p1) X.env
      standAt p2.atName
      let (f, first) ← holding [ov] (getMethod ov "__init__" pl)
      callWith pos f first (backTo pos (starEach (e :: es) X.env)) (backToKw pos (keywordEach [] X.env)))) aRfl)
    (he : autoParam (starEach (e :: es) X.env = (false, eval e X.env) :: starEach es X.env) aStar) (hpl : autoParam ((backTo pos (starEach es X.env)).any (·.1) = false) aPl) :
    PE X (.Call (.Attribute (.Name n p1) "__init__" p2) (e :: es) [] pos) (tVeI X.K ta) := by
  refine ⟨fun pins s σ H Q I h => ?_⟩
  refine PySem.W.methodCall_KW (ld_glob I hg T.g ?_ hd) hc
  refine PySem.W.method_cls I.kIn T.sp (PySem.W.cls_value I.kIn T.rd T.fc (by decide +kernel) ?_)
  show wpAny _ _ (callWith pos (Value.builtin "ValueError.__init__") [] (backTo pos (starEach (e :: es) X.env)) []) _ _ _
  refine PyProof.Rows.callWith_method1 (thn (ha.run pos pins _ σ H _ (I.tok _) h) fun us s1 ⟨vs, H1, I1, r1, a, C, ws, ev, hl, T, ea, q⟩ => ?_) he hpl
  subst ev
  cases r1 with
  | @cons _ u0 _ ur ra rw' =>
    obtain rfl : u0 = Value.ref a := ra
    have hlen : ur.length ≤ sizeLine := by
      rw [← Paired.length rw', sizeLine_eq]
      omega
    exact oinit_ok T I1 ea hlen fun s' J => ⟨.non, H1, J, rfl, q⟩
structure Dx (K : PySem.W.Frag) (n fld qual : Str) (st : Stmt) (ps : List Str) : Prop where
  ex : ∃ C fI fd, PySem.W.nsIn K mainGlobals n = some (some (.ref C)) ∧ OexC K C ∧ PySem.W.findIn K (.ref C) fld = some none ∧ PySem.W.findIn K (.ref C) "__init__" = some (some (.ref fI)) ∧ PySem.W.typeIn K (.ref fI) = some (.type "function") ∧ Fun K "__init__" qual st fI fd ∧ Binds K fd ps []
theorem Dx.fld {K : PySem.W.Frag} {n fld qual : Str} {st : Stmt} {ps : List Str} (D : Dx K n fld qual st ps) : XFld K n fld := fun C h => by
  obtain ⟨C', fI, fd, hC, _, hno, _⟩ := D.ex
  obtain rfl := ns_one hC h
  exact hno
section
variable {P : Program} {w : World} {K : PySem.W.Frag} {mg : Str → Option Value} {base : Heap}
theorem XInit.of {n fld qual : Str} {st : Stmt} {N : List Str} {x y : Str} (D : Dx K n fld qual st [x, y]) (sc : FnScope N [x, y] (defScope st)) (hN : N.length = 2)
    (body : ∀ (C fI : Addr) (T : OexC K C) (hno : PySem.W.findIn K (.ref C) fld = some none) (cdv : Value) (A : Around) (outer : List Env) (s : Shared) (H : Hp) (E : XK) (a : Addr) (v : V) (Q : VK), H a = some (exo a C none) →
      (∀ dx, H dx = none → dx ≠ a → Q .non (upd (upd H dx (exd dx [(fld, v)])) a (exo a C (some dx)))) → WP (cxOf (CXm P w K) P w K mg base N qual (defScope st) fI cdv A outer s H E) (defBody st) { nx := fun _ H' => Q .non H', rt := Q } [some (.ref a), some v] H) :
    XInit P w K mg base 1 n fld := by
  obtain ⟨C, fI, fd, hC, T, hno, iC, tI, F, hb⟩ := D.ex
  refine ⟨fun C' hC' => ?_⟩
  obtain rfl := ns_one hC hC'
  refine ⟨T, fI, fd, [x, y], iC, tI, hb, F.okM sc (fun vs H Q E ⟨a, v, e, _⟩ => by rw [e]; rfl) (fun cdv A outer s H vs Q E hr h => ?_)⟩
  obtain ⟨a, v, rfl, ha, hq⟩ := h
  refine ⟨_, psW, ?_⟩
  have e1 : L2.start N [V.ref a, v] = [some (.ref a), some v] := by
    unfold L2.start
    rw [hN]
    rfl
  rw [e1]
  exact body C' fI T hno cdv A outer s H E a v Q ha hq
end
section
variable {X : Cx} {Γ : List Slot} {α β γ : Type} {i : Rep α} {j : Rep β} {l : Rep γ} {pos p p2 : Pos} {e a b c elt tg it : Expr} {es : List Expr} {E : SE} {rest body : List Stmt}
theorem o_inS {c : Nat} {z : Tx} : OB X (compareOp .In) ([c] : Tx) z (decide (c ∈ z)) := ob_flat op_in_sign fun F H v u Q s r1 r2 q => ⟨c, sx z, r1, r2, q _ rfl⟩
theorem o_notInS {c : Nat} {z : Tx} : OB X (compareOp .NotIn) ([c] : Tx) z (!decide (c ∈ z)) := ob_flat op_notIn_sign fun F H v u Q s r1 r2 q => ⟨c, sx z, r1, r2, q _ rfl⟩
theorem Lc.freeze {K : PySem.W.Frag} {B : Bs} {F H : Hp} {σ : L2.St} {k : Nat} {o : Own} {x : α} (L : Lc K B F H σ Γ) (hk : Γ[k]? = some (.own o)) (hx : Froz o x) : Lc K B (frz F H o.fp) H σ (Γ.set k (.val i x)) ∧ Same F (frz F H o.fp) := by
  obtain ⟨v, ev, ok, f⟩ := slot_own L hk
  have f0 : ∀ b ∈ o.fp, F b = none := fun b hb => (f b hb).1
  refine ⟨⟨⟨L.ext.ff.trans (frz_le f0), frz_same L.same, L.ext.hh, fun a hm h1 h2 => ?_, L.ext.th⟩, by simp [L.len], fun q t hq => ?_, L.ap.put k rfl⟩, frz_le f0⟩
  · have na : a ∉ o.fp := fun hb => (f a hb).2.elim (fun z => h2 z) hm
    rw [frz_out na]
    exact L.ext.nwM a hm h1 h2
  · rcases get_set_slot hq with ⟨e1, e2, rfl⟩ | ⟨e1, hq'⟩
    · subst e1
      rw [ev]
      exact ⟨v, rfl, hx L.same ok f0⟩
    · have old := L.ok q t hq'
      cases t with
      | no => trivial
      | val i x => obtain ⟨v, e2, r⟩ := old; exact ⟨v, e2, i.mono (frz_le f0) r⟩
      | own o2 =>
        obtain ⟨u, eu, ok2, f2⟩ := old
        exact ⟨u, eu, o2.stay (frz_le f0) (fun _ _ _ h => h) ok2, fun b hb => ⟨by rw [frz_out (fun hb2 => L.ap k q o o2 e1 hk hq' b hb2 hb)]; exact (f2 b hb).1, (f2 b hb).2⟩⟩
theorem st_freeze (k : Nat) {o : Own} {x : α} {sts : List Stmt} (hx : Froz o x) (h : ST X sts (Γ.set k (.val i x)) E) (hk : autoParam (Γ[k]? = some (.own o)) aRfl) : ST X sts Γ E := fun B F H σ D L ed => by
  obtain ⟨L', s⟩ := L.freeze hk hx
  exact h B _ H σ D L' (ed.weak s)
theorem st_setEx (k : Nat) {n : Str} {G : α → Prop} (he : EX X Γ e (fun r => ∃ x, G x ∧ r = .val i x)) (hr : ∀ x, G x → ST X rest (Γ.set k (.val i x)) E) (hN : X.N.Nodup) (hi : autoParam (X.N[k]? = some n) aRfl) (hx : autoParam (L2.Loc X.env.scope n) aLoc)
    (hs : autoParam (swapsWith e (some (.Name n p)) pos.line X.env = pure false) aRfl) (hf : autoParam (X.fn n = true ∨ X.env.scope.names.lookup n = some .local) Tw.aFn) : ST X (.Assign [.Name n p] e pos :: rest) Γ E := fun B F H σ D L ed =>
  WP.cons (ps_set hN hi hx peW hs hf) (he B F H σ _ L fun r v F1 H1 er e1 r1 => by
    obtain ⟨x, hG, rfl⟩ := er
    exact hr x hG B F1 H1 _ D ((L.step e1).putV k r1) (ed.weak e1.ff))
end
set_option genInjectivity true in
structure Why where
  w : Tx
  ns : List Int
  deriving DecidableEq
noncomputable instance repWhy : Rep Why := ⟨fun _ H v x => ∃ a, v = .ref a ∧ H a = some (.tup (.str (sx x.w) :: x.ns.map V.int)), fun s ⟨a, e, h⟩ => ⟨a, e, s _ _ h⟩⟩
theorem dpInts {K : PySem.W.Frag} {F : Hp} : ∀ ns : List Int, DpAll K F (ns.map V.int) (ns.map PyData.int)
  | [] => .nil
  | n :: ns => .cons (.int n) (dpInts ns)
theorem layInts : ∀ ns : List Int, PyData.canLayAll0 (ns.map PyData.int) = true
  | [] => by rw [List.map_nil, PyData.canLayAll0]
  | n :: ns => by rw [List.map_cons, PyData.canLayAll0, PyData.canLay0, layInts ns]; rfl
theorem depInts : ∀ ns : List Int, PyData.depthAll (ns.map PyData.int) = 0
  | [] => by rw [List.map_nil, PyData.depthAll]
  | n :: ns => by rw [List.map_cons, PyData.depthAll, depInts ns]; simp [PyData.depth]
noncomputable abbrev instDatTx : Dat (List Nat) := inferInstance
noncomputable instance : Dat Why := ⟨fun x => .tuple (.str (sx x.w) :: x.ns.map PyData.int), fun x => TxOk x.w, 1, fun {K F v x} ⟨a, e, h⟩ => by subst e; exact .tup (.inl (.inl h)) (.cons (.str _) (dpInts _)),
  fun {x} h => by
    rw [PyData.canLay0, PyData.canLayAll0, layInts]
    have := (instDatTx).lay (x := x.w) h
    show (PyData.canLay0 (.str (sx x.w)) && true) = true
    rw [show PyData.canLay0 (.str (sx x.w)) = true from this]; rfl,
  fun x => by rw [PyData.depth, PyData.depthAll, depInts]; simp [PyData.depth], fun x y => by
    rw [PyData.eqv, PyData.eqvAll]
    have h1 := (instDatTx).eqv x.w y.w
    have h2 := eqvAll (α := Int) x.ns y.ns
    rw [show PyData.eqv (.str (sx x.w)) (.str (sx y.w)) = decide (x.w = y.w) from h1, show PyData.eqvAll (x.ns.map PyData.int) (y.ns.map PyData.int) = decide (x.ns = y.ns) from h2, ← Bool.decide_and]
    exact decide_eq_decide.mpr (by cases x; cases y; simp)⟩
noncomputable instance : Ty Why := ⟨"tuple", fun {_ _ _ v x} s h => by obtain ⟨a, rfl, h⟩ := h; exact .base (.tup (s _ _ h))⟩
noncomputable instance : NonN Why := ⟨fun h z => by obtain ⟨a, rfl, _⟩ := h; cases z⟩
section
variable {X : Cx} {Γ : List Slot} {pos p p2 : Pos} {a : Expr} {es : List Expr}
theorem ev_why {x1} {w : Tx} {ns : List Int} (ha : EV X Γ a w) (hs : EAs X Γ es ns) (hz : ns.length ≤ 999 := by simp) (hst : autoParam (starEach (a :: es) X.env = (false, eval a X.env) :: starEach es X.env) aStar) : EV X Γ (.Tuple (a :: es) x1 pos) (Why.mk w ns) := fun B F H σ Q L q =>
  WE.of (pe_tup (pa_cons peW paW hst)) (ha B F H σ _ L fun v F1 H1 e1 r1 => hs B F1 H1 σ _ (L.step e1) fun vs F2 H2 e2 r2 => ⟨by rw [List.length_cons, Paired.length r2]; exact sl_small (by omega), fun p hp => by
    have e12 := e1.trans e2
    have ea := Ext.new (o := .tup (v :: vs)) (L.step e12).same hp
    obtain rfl : v = .str (sx w) := r1
    have hv := Rps.ints r2
    subst hv
    exact q (.ref p) _ _ (e12.trans ea) ⟨p, rfl, upd_same⟩⟩)
noncomputable def splitC (c : Nat) : Tx → Tx → List Tx
  | acc, [] => [acc]
  | acc, d :: r => if d = c then acc :: splitC c [] r else splitC c (acc ++ [d]) r
theorem spl_one {c : Nat} : ∀ (l acc : Tx), TL.spl [c] 0 acc l = splitC c acc l
  | [], acc => rfl
  | d :: r, acc => by
    rw [TL.spl, splitC]
    have hp : TL.pre [c] (d :: r) = decide (d = c) := by
      unfold TL.pre
      by_cases h : d = c
      · subst h; simp
      · simp [h]
    rw [hp]
    by_cases h : d = c
    · rw [if_pos (decide_eq_true h), if_pos h]
      exact congrArg _ (spl_one r [])
    · rw [if_neg (by simpa using h), if_neg h]
      exact spl_one r (acc ++ [d])
theorem splitC_len {c : Nat} : ∀ (l acc : Tx), (splitC c acc l).length ≤ l.length + 1 ∧ ∀ x ∈ splitC c acc l, x.length ≤ acc.length + l.length
  | [], acc => ⟨by simp [splitC], fun x hx => by
    have : x = acc := by simpa [splitC] using hx
    rw [this]; simp⟩
  | d :: r, acc => by
    rw [splitC]
    split
    · obtain ⟨h1, h2⟩ := splitC_len (c := c) r []
      refine ⟨by simp only [List.length_cons]; omega, fun x hx => ?_⟩
      rcases List.mem_cons.mp hx with rfl | hx
      · omega
      · have := h2 x hx
        simp only [List.length_cons, List.length_nil] at this ⊢
        omega
    · obtain ⟨h1, h2⟩ := splitC_len (c := c) r (acc ++ [d])
      refine ⟨by simp only [List.length_cons]; omega, fun x hx => ?_⟩
      have := h2 x hx
      simp only [List.length_append, List.length_cons, List.length_nil] at this ⊢
      omega
theorem en_split {o e : Expr} {x : Tx} {c : Nat} {apos : Pos} (ho : EV X Γ o x) (he : EV X Γ e ([c] : Tx)) (hc : c < 256) (hz : x.length + 2 ≤ sizeLine) (hs : autoParam (starEach [e] X.env = [(false, eval e X.env)]) aStar) (hbase : autoParam (attributeBase o "split" X.env (eval o X.env) = eval o X.env) aRfl)
    (hline : autoParam ((apos.endLine == pos.line) = true) aRfl) : EN X Γ (.Call (.Attribute o "split" apos) [e] [] pos) (splitC c [] x) := fun B F H σ Q L q =>
  WE.of (pe_split peW peW hs hbase hline) (ho B F H σ _ L fun v F1 H1 e1 r1 => ⟨⟨_, r1⟩, he B F1 H1 σ _ (L.step e1) fun u F2 H2 e2 r2 => by
    obtain rfl : v = .str (sx x) := r1
    obtain rfl : u = .str (sx [c]) := r2
    refine ⟨sx x, sx [c], rfl, rfl, by rw [sx_len]; rfl, by rw [sx_len]; exact hz, fun p hp => ?_⟩
    have e12 := e1.trans e2
    have s2 := (L.step e12).same
    have hk : (sx [c]).cps.all (· < 256) = true := by
      rw [← Array.all_toList]
      simpa [sx] using hc
    have es : Txt.split (sx x) (sx [c]) = (splitC c [] x).map sx := by
      refine TL.map_tl_inj ?_
      rw [TL.split_spl (sx x) (sx [c]) (by rw [tl_sx]; simp) (TL.kind_ok hk), tl_sx, tl_sx, spl_one, List.map_map]
      have : (tl ∘ sx) = (id : Tx → Tx) := funext fun x => tl_sx x
      rw [this, List.map_id]
    rw [es]
    exact q p _ F2 _ (e12.trans (Ext.apart s2 hp)) (e12.hs.free hp) (s2.free hp) upd_same (Rps.of_strs _)⟩)
end
end Tw
namespace Tw
open PySem PySem.Spec PyProof.Rows L2 TL
section
variable {K : PySem.W.Frag} {B : Bs} {F H F' H' : Hp} {σ : L2.St} {Γ : List Slot} {M : Addr → Prop}
theorem Lc.after (L : Lc K B F H σ Γ) (e : ExtM M F H F' H') {k : Nat} {o : Own} (hg : Γ[k]? = some (.own o)) (hM : ∀ b, M b → b ∈ o.fp) : Lc K B F' H' σ (Γ.set k .no) := by
  obtain ⟨v, ev, ok, f⟩ := slot_own L hg
  have here : ∀ b u, ¬ B.M b → B.H b = some u → ¬ M b := fun b u nb q m => (f b (hM b m)).2.elim (fun z => by rw [z] at q; cases q) nb
  refine ⟨⟨L.ext.ff.trans e.ff, e.fh, fun b u nb q => e.hh b u (here b u nb q) (L.ext.hh b u nb q), fun b nb h1 h2 => ?_, fun b hb h => ?_⟩, by simp [L.len], fun q t hq => ?_, L.ap.put k rfl⟩
  · cases q : B.H b with
    | none => exact absurd q h2
    | some u => exact e.nwM b (here b u nb q) (L.ext.nwM b nb h1 h2) (by rw [L.ext.hh b u nb q]; exact fun z => nomatch z)
  · have := L.ext.th b hb h
    by_cases m : M b
    · exact e.th b m this
    · cases q : H b with
      | none => exact absurd q this
      | some u => rw [e.hh b u m q]; exact fun z => nomatch z
  · rcases get_set_slot hq with ⟨_, _, rfl⟩ | ⟨e1, hq'⟩
    · trivial
    · have old := L.ok q t hq'
      cases t with
      | no => trivial
      | val i x => obtain ⟨v, e2, r⟩ := old; exact ⟨v, e2, i.mono e.ff r⟩
      | own o2 =>
        obtain ⟨u, eu, ok2, f2⟩ := old
        have nM : ∀ b ∈ o2.fp, ¬ M b := fun b hb m => L.ap k q o o2 e1 hg hq' b (hM b m) hb
        exact ⟨u, eu, o2.stay e.ff (fun b hb w z => e.hh b w (nM b hb) z) ok2, fun b hb => ⟨e.nwM b (nM b hb) (f2 b hb).1 (o2.there ok2 b hb), (f2 b hb).2⟩⟩
theorem Lc.back (L : Lc K B F H σ Γ) (e : ExtM M F H F' H') {k : Nat} {o o' : Own} (hg : Γ[k]? = some (.own o)) (hM : ∀ b, M b → b ∈ o.fp) (ok' : o'.ok K F' H' o'.root) (f' : ∀ b ∈ o'.fp, (H b = none ∨ M b) ∧ F' b = none) (hr : o'.root = o.root) : Lc K B F' H' σ (Γ.set k (.own o')) := by
  have L1 := L.after e hg hM
  obtain ⟨v, ev, ok, f⟩ := slot_own L hg
  have er : v = o.root := o.rt ok
  refine ⟨L1.ext, by simp [L.len], fun q t hq => ?_, L.ap.putO k fun j o2 hj h b hb => ?_⟩
  · rcases get_set_slot hq with ⟨e1, e2, rfl⟩ | ⟨e1, hq'⟩
    · subst e1
      rw [ev]
      refine ⟨v, rfl, by rw [er, ← hr]; exact ok', fun b hb => ⟨(f' b hb).2, ?_⟩⟩
      rcases (f' b hb).1 with z | m
      · exact L.nw z
      · exact (f b (hM b m)).2
    · exact L1.ok q t (by rw [List.getElem?_set_ne e1]; exact hq')
  · rcases (f' b hb).1 with z | m
    · exact L.ne_own z h
    · exact L.ap k j o o2 hj hg h b (hM b m)
end
noncomputable def EG (X : Cx) (Γ : List Slot) (e : Expr) (P : Ret → List Slot → Prop) (R : Exn → List Slot → Prop) : Prop :=
  ∀ B F H σ Q, Lc X.K B F H σ Γ → (∀ r v F' H' Γ', P r Γ' → Same F F' → Lc X.K B F' H' σ Γ' → ROk X.K (fun b => B.nw b ∧ Free Γ' b) F' H' v r → Q v H') →
    (∀ x u d F' H' Γ', R x Γ' → Same F F' → Lc X.K B F' H' σ Γ' → XOk X.K (fun b => B.nw b ∧ Free Γ' b) F' H' u d x → XW X u d σ H') → WE X e σ H Q
noncomputable def EAb (X : Cx) (Γ : List Slot) (es : List Expr) (A : List Slot) : Prop :=
  ∀ B F H σ Q, Lc X.K B F H σ Γ → (∀ vs F' H', Ext F H F' H' → VsOkO X.K F' H' vs A → Q vs H') → WA X es σ H Q
noncomputable def noOwn (A : List Slot) : Bool := A.all fun s => !s.isOwn
theorem noOwn_no {A : List Slot} (h : noOwn A = true) (o : Own) : Slot.own o ∉ A := fun m => by
  have := (List.all_eq_true.mp h) _ m
  cases this
theorem noOwn_ma {A : List Slot} (h : noOwn A = true) {b : Addr} (m : MA A b) : False := by
  obtain ⟨o, h1, _⟩ := m
  exact noOwn_no h o h1
theorem apart_one {o : Own} {A : List Slot} (h : noOwn A = true) : Apart (.own o :: A) := Apart.tail (fun i j o1 o2 _ h1 _ => absurd (List.mem_of_getElem? h1) (noOwn_no h o1)) fun _ _ _ _ m => noOwn_ma h m
theorem ma_one {o : Own} {A : List Slot} (h : noOwn A = true) {b : Addr} (m : MA (.own o :: A) b) : b ∈ o.fp := by
  rcases MA_cons m with ⟨o', z, hb⟩ | m
  · cases z; exact hb
  · exact (noOwn_ma h m).elim
section
variable {X : Cx} {Γ : List Slot} {α β γ : Type} {i : Rep α} {j : Rep β} {pos p p2 : Pos} {e a b c : Expr} {es : List Expr} {E : SE} {rest body : List Stmt}
theorem eab_nil : EAb X Γ [] [] := fun B F H σ Q L q => WA.of pa_nil (q [] F H (Ext.refl L.same) trivial)
theorem VsOkO.step {F H F' H' : Hp} (e : Ext F H F' H') : ∀ {vs : List V} {A : List Slot}, VsOkO X.K F H vs A → VsOkO X.K F' H' vs A
  | [], [], _ => trivial
  | v :: vs, .val i x :: A, h => ⟨i.mono e.ff h.1, VsOkO.step e h.2⟩
  | v :: vs, .own o :: A, h => ⟨o.stay e.ff (fun b _ u q => e.hs _ _ q) h.1, fun b hb => e.nw b (h.2.1 b hb) (o.there h.1 b hb), VsOkO.step e h.2.2⟩
  | [], _ :: _, h => h.elim
  | _ :: _, [], h => h.elim
  | _ :: _, .no :: _, h => h.elim
theorem eab_v {x : α} {A : List Slot} (h : EV X Γ e x) (hr : EAb X Γ es A) (hs : autoParam (starEach (e :: es) X.env = (false, eval e X.env) :: starEach es X.env) aStar) : EAb X Γ (e :: es) (.val i x :: A) := fun B F H σ Q L q =>
  WA.of (pa_cons peW paW hs) (h B F H σ _ L fun v F1 H1 e1 r1 => hr B F1 H1 σ _ (L.step e1) fun vs F2 H2 e2 ok => q (v :: vs) F2 H2 (e1.trans e2) ⟨i.mono e2.ff r1, ok⟩)
theorem eab_o (k : Nat) {n : Str} {o : Own} {A : List Slot} (hr : EAb X Γ es A) (hg : autoParam (Γ[k]? = some (.own o)) aRfl) (hN : autoParam (X.N[k]? = some n) aRfl) (hv : autoParam (Vis X.env.scope n) aVis) (hd : autoParam ((n == ("__debug__" : Str)) = false) aDec)
    (hcd : autoParam ((n == ("__classdict__" : Str)) = false) aDec) (hs : autoParam (starEach (.Name n p :: es) X.env = (false, eval (.Name n p) X.env) :: starEach es X.env) aStar) : EAb X Γ (.Name n p :: es) (.own o :: A) := fun B F H σ Q L q => by
  obtain ⟨v, ev, ok, f⟩ := slot_own L hg
  refine WA.of (pa_cons (pe_var hN hv hd hcd) paW hs) ⟨v, ev, hr B F H σ _ L fun vs F2 H2 e2 ok2 => q (v :: vs) F2 H2 e2 ⟨o.stay e2.ff (fun b _ u z => e2.hs _ _ z) ok, fun b hb => e2.nw b (f b hb).1 (o.there ok b hb), ok2⟩⟩
theorem borrow_rets {k : Nat} {o : Own} {A : List Slot} {B : Bs} {F H F1 H1 : Hp} {σ : L2.St} {Q : VK} {P : Ret → List Slot → Prop} {G : α → Own → Prop} (hg : Γ[k]? = some (.own o)) (L : Lc X.K B F H σ Γ) (e1 : Ext F H F1 H1) (hma : ∀ b, MA A b → b ∈ o.fp)
    (hG : ∀ x o', G x o' → o'.root = o.root) (hP : ∀ x o', G x o' → P (.val i x) (Γ.set k (.own o')))
    (q : ∀ r v F' H' Γ', P r Γ' → Same F F' → Lc X.K B F' H' σ Γ' → ROk X.K (fun b => B.nw b ∧ Free Γ' b) F' H' v r → Q v H') {x : α} {o' : Own} (hx : G x o') :
    ∀ v F' H', ExtM (MA A) F1 H1 F' H' → ROk X.K (Bs.nw ⟨F1, H1, MA A⟩) F' H' v (.chg i x [o']) → Q v H' := fun v F2 H2 e2 ok => by
  obtain ⟨r, f, _⟩ := ok
  obtain ⟨ok', f'⟩ := f o' (List.mem_singleton.mpr rfl)
  exact q (.val i x) v F2 H2 (Γ.set k (.own o')) (hP x o' hx) (e1.ff.trans e2.ff) ((L.step e1).back e2 hg hma ok' (fun b hb => f' b hb) (hG x o' hx)) r
theorem borrow_exns {k : Nat} {o : Own} {A : List Slot} {B : Bs} {F H F1 H1 : Hp} {σ : L2.St} {R : Exn → List Slot → Prop} (hg : Γ[k]? = some (.own o)) (L : Lc X.K B F H σ Γ) (e1 : Ext F H F1 H1) (hma : ∀ b, MA A b → b ∈ o.fp)
    (z : ∀ x u d F' H' Γ', R x Γ' → Same F F' → Lc X.K B F' H' σ Γ' → XOk X.K (fun b => B.nw b ∧ Free Γ' b) F' H' u d x → XW X u d σ H') {x : Exn} (hx : R x (Γ.set k .no)) :
    ∀ u d F' H', ExtM (MA A) F1 H1 F' H' → XOk X.K (Bs.nw ⟨F1, H1, MA A⟩) F' H' u d x → XW X u d σ H' := fun u d F2 H2 e2 ok => by
  have L1 := L.step e1
  have L2 := L1.after e2 hg hma
  obtain ⟨_, _, _, fo⟩ := slot_own L1 hg
  refine z x u d F2 H2 (Γ.set k .no) hx (e1.ff.trans e2.ff) L2 (ok.imp fun b h => ⟨?_, fun q o2 hq => ?_⟩)
  · exact h.elim (fun w => L1.nw w) fun m => (fo b (hma b m)).2
  · rcases get_set_slot hq with ⟨_, _, w⟩ | ⟨ne, hq'⟩
    · cases w
    · exact h.elim (fun w => L1.ne_own w hq') fun m => L1.ap k q o o2 ne hg hq' b (hma b m)
theorem st_dropG {P : Ret → List Slot → Prop} {R : Exn → List Slot → Prop} (he : EG X Γ e P R) (hr : ∀ r Γ', P r Γ' → ST X rest Γ' E) (hR : ∀ x Γ', R x Γ' → E.ex Γ' x) (hs : autoParam (swapsWith e none pos.line X.env = pure false) aRfl) : ST X (.Expr e pos :: rest) Γ E := fun B F H σ D L ed =>
  WP.cons (ps_expr peW hs) (he B F H σ _ L (fun r v F1 H1 Γ1 hP s1 L1 _ => hr r Γ1 hP B F1 H1 σ D L1 (ed.weak s1)) fun x u d F1 H1 Γ1 hx s1 L1 ok => ed.ex F1 H1 σ Γ1 x u d s1 (hR x Γ1 hx) L1 ok)
end
noncomputable def SlotV (K : PySem.W.Frag) (F : Hp) (v : V) : Slot → Prop
  | .val i x => i.rp K F v x
  | _ => False
theorem SlotV.mono {K : PySem.W.Frag} {F F' : Hp} (s : Same F F') {v : V} {t : Slot} (h : SlotV K F v t) : SlotV K F' v t := by
  cases t with
  | val i x => exact i.mono s h
  | no => exact h.elim
  | own o => exact h.elim
noncomputable def FOk (K : PySem.W.Frag) (F : Hp) : List (Str × V) → List (Str × Slot) → Prop
  | [], [] => True
  | p :: fv, q :: fs => p.1 = q.1 ∧ SlotV K F p.2 q.2 ∧ FOk K F fv fs
  | _, _ => False
theorem FOk.mono {K : PySem.W.Frag} {F F' : Hp} (s : Same F F') : ∀ {fv : List (Str × V)} {fs : List (Str × Slot)}, FOk K F fv fs → FOk K F' fv fs
  | [], [], _ => trivial
  | p :: fv, q :: fs, h => ⟨h.1, h.2.1.mono s, FOk.mono s h.2.2⟩
  | [], _ :: _, h => h.elim
  | _ :: _, [], h => h.elim
theorem lookup_ne {A : Type u} {f g : Str} {x : A} {l : List (Str × A)} (h : ¬ f = g) : ((g, x) :: l).lookup f = l.lookup f := by
  have hne : (f == g) = false := by simpa using h
  simp [List.lookup, hne]
theorem lookup_eq {A : Type u} {f : Str} {x : A} {l : List (Str × A)} : ((f, x) :: l).lookup f = some x := by simp [List.lookup]
theorem FOk.get {K : PySem.W.Frag} {F : Hp} {f : Str} {s : Slot} : ∀ {fv : List (Str × V)} {fs : List (Str × Slot)}, FOk K F fv fs → fs.lookup f = some s → ∃ v, fv.lookup f = some v ∧ SlotV K F v s
  | [], [], _, h => by cases h
  | [], _ :: _, h, _ => h.elim
  | _ :: _, [], h, _ => h.elim
  | (g, v) :: fv, (g', t) :: fs, ⟨e, r, tl⟩, h => by
    have e : g = g' := e
    subst e
    by_cases hf : f = g
    · subst hf
      rw [lookup_eq] at h ⊢
      cases h
      exact ⟨v, rfl, r⟩
    · rw [lookup_ne hf] at h ⊢
      exact FOk.get tl h
theorem FOk.no {K : PySem.W.Frag} {F : Hp} {f : Str} : ∀ {fv : List (Str × V)} {fs : List (Str × Slot)}, FOk K F fv fs → fs.lookup f = none → fv.lookup f = none
  | [], [], _, _ => rfl
  | [], _ :: _, h, _ => h.elim
  | _ :: _, [], h, _ => h.elim
  | (g, v) :: fv, (g', t) :: fs, ⟨e, r, tl⟩, h => by
    have e : g = g' := e
    subst e
    by_cases hf : f = g
    · subst hf
      rw [lookup_eq] at h
      cases h
    · rw [lookup_ne hf] at h ⊢
      exact FOk.no tl h
theorem FOk.len {K : PySem.W.Frag} {F : Hp} : ∀ {fv : List (Str × V)} {fs : List (Str × Slot)}, FOk K F fv fs → fv.length = fs.length
  | [], [], _ => rfl
  | _ :: _, _ :: _, h => by rw [List.length_cons, List.length_cons, FOk.len h.2.2]
  | [], _ :: _, h => h.elim
  | _ :: _, [], h => h.elim
theorem FOk.app {K : PySem.W.Frag} {F : Hp} {g : List (Str × V)} {g' : List (Str × Slot)} : ∀ {fv : List (Str × V)} {fs : List (Str × Slot)}, FOk K F fv fs → FOk K F g g' → FOk K F (fv ++ g) (fs ++ g')
  | [], [], _, h => h
  | _ :: _, _ :: _, h, h2 => ⟨h.1, h.2.1, FOk.app h.2.2 h2⟩
  | [], _ :: _, h, _ => h.elim
  | _ :: _, [], h, _ => h.elim
theorem putF_new {f : Str} {v : V} : ∀ {fv : List (Str × V)}, fv.lookup f = none → putF f v fv = fv ++ [(f, v)]
  | [], _ => rfl
  | (g, u) :: fv, h => by
    by_cases hf : f = g
    · subst hf; rw [lookup_eq] at h; cases h
    · rw [lookup_ne hf] at h
      show (if g = f then _ else _) = _
      rw [if_neg (Ne.symm hf), putF_new h]
      rfl
theorem FOk.put {K : PySem.W.Frag} {F : Hp} {f : Str} {v : V} {s : Slot} {fv : List (Str × V)} {fs : List (Str × Slot)} (h : FOk K F fv fs) (hn : fs.lookup f = none) (r : SlotV K F v s) : FOk K F (putF f v fv) (fs ++ [(f, s)]) := by
  rw [putF_new (h.no hn)]
  exact h.app ⟨rfl, r, trivial⟩
noncomputable def ownI (C a dx : Addr) (fs : List (Str × Slot)) : Own where
  fp := [a, dx]
  root := .ref a
  ok := fun K F H v => v = .ref a ∧ a ≠ dx ∧ H dx = some (.own a) ∧ ∃ fv, H a = some (.ins C dx fv) ∧ FOk K F fv fs
  stay := fun s k ⟨e, n, h1, fv, h2, r⟩ => ⟨e, n, k dx (by simp) _ h1, fv, k a (by simp) _ h2, r.mono s⟩
  there := fun ⟨_, _, h1, fv, h2, _⟩ b hb z => by
    have hb' : b = a ∨ b = dx := by simpa using hb
    rcases hb' with rfl | rfl
    · rw [h2] at z; cases z
    · rw [h1] at z; cases z
  rt := fun h => h.1
class Inst (α : Type) where
  cls : α → Str
  flds : α → List (Str × Slot)
noncomputable instance (priority := low) repInst {α : Type} [t : Inst α] : Rep α := ⟨fun K F v x => ∃ a C dx fv, v = .ref a ∧ PySem.W.nsIn K mainGlobals (t.cls x) = some (some (.ref C)) ∧ F a = some (.ins C dx fv) ∧ F dx = some (.own a) ∧ FOk K F fv (t.flds x),
  fun s ⟨a, C, dx, fv, e, n, h1, h2, r⟩ => ⟨a, C, dx, fv, e, n, s _ _ h1, s _ _ h2, r.mono s⟩⟩
theorem frozI {α : Type} [t : Inst α] {C a dx : Addr} {x : α} {K0 : PySem.W.Frag} (hC : ∀ K : PySem.W.Frag, K = K0 → PySem.W.nsIn K mainGlobals (t.cls x) = some (some (.ref C))) {F H : Hp} {v : V} (s : Same F H) (ok : (ownI C a dx (t.flds x)).ok K0 F H v) (f : ∀ b ∈ [a, dx], F b = none) : repInst.rp K0 (frz F H [a, dx]) v x := by
  obtain ⟨e, n, h1, fv, h2, r⟩ := ok
  exact ⟨a, C, dx, fv, e, hC K0 rfl, (frz_in (by simp)).trans h2, (frz_in (by simp)).trans h1, r.mono (frz_le f)⟩
end Tw
namespace Tw
open PySem PySem.Spec PyProof.Rows L2 TL
structure KCls (K : PySem.W.Frag) (n : Str) (C : Addr) : Prop where
  ns : PySem.W.nsIn K mainGlobals n = some (some (.ref C))
  cl : Cls K C
  mks : PySem.W.makesIn K C = true
  kp : PySem.W.keepIn K (.ref C) = true
  ty : PySem.W.typeIn K (.ref C) = some (.type "type")
  ha : PySem.W.findIn K (.ref C) "__class__" = some (some (.builtin "object.__class__"))
  hn : PySem.W.specialIn K (.builtin "object.__class__") "__get__" = some (some (.builtin "getset_descriptor.__get__"))
  ht : PySem.W.takesIn K (.builtin "object.__class__") = some true
  hm : PySem.W.mroIn K C (.type "object") = some true
noncomputable def OC (K : PySem.W.Frag) (mg : Str → Option Value) (n : Str) : Prop := ∃ C, KCls K n C ∧ mg n = some (.ref C)
noncomputable def NoA (K : PySem.W.Frag) (n f : Str) : Prop := ∀ C, PySem.W.nsIn K mainGlobals n = some (some (.ref C)) → NoAttr K C f
noncomputable def OSub (K : PySem.W.Frag) (n m : Str) (b : Bool) : Prop := ∀ C D, PySem.W.nsIn K mainGlobals n = some (some (.ref C)) → PySem.W.nsIn K mainGlobals m = some (some (.ref D)) → PySem.W.kitOne K (.ref C) (.ref D) = some b
theorem OSub.mk {K : PySem.W.Frag} {n m : Str} {b : Bool} {C D : Addr} (a1 : PySem.W.nsIn K mainGlobals n = some (some (.ref C))) (a2 : PySem.W.nsIn K mainGlobals m = some (some (.ref D))) (ht : PySem.W.typeIn K (.ref D) = some (.type "type")) (hd : PySem.W.hasDictIn K D = true)
    (h : PySem.W.subIn K (.ref C) (.ref D) = some b) (hb : C = D → b = true) : OSub K n m b := fun C' D' e1 e2 => by
  obtain rfl := ns_one a1 e1
  obtain rfl := ns_one a2 e2
  exact kitOf ht hd h fun e => hb (Value.ref.inj e)
structure Dm (K : PySem.W.Frag) (n m qual : Str) (st : Stmt) (ps : List Str) : Prop where
  ex : ∃ C f fd, PySem.W.nsIn K mainGlobals n = some (some (.ref C)) ∧ Meth K C m f ∧ Fun K m qual st f fd ∧ Binds K fd ps []
structure HasM (P : Program) (w : World) (K : PySem.W.Frag) (mg : Str → Option Value) (base : Heap) (k : Nat) (n m : Str) (ps : List Str) (S : Spec) : Prop where
  ex : ∀ C, PySem.W.nsIn K mainGlobals n = some (some (.ref C)) → ∃ f fd, Meth K C m f ∧ Binds K fd ps [] ∧ FnOk P w K mg base (CXm P w K) k f fd ps (spOf K S)
noncomputable abbrev finI (o : Own) (Q : Ret → Prop) (R : Exn → Prop) : SE := ⟨fun Γ => ∃ o', Γ[0]? = some (.own o') ∧ o'.root = o.root ∧ Q (.chg repUnit () [o']), Q, fun _ => False, fun _ => False, fun _ => R⟩
section
variable {P : Program} {w : World} {K : PySem.W.Frag} {mg : Str → Option Value} {base : Heap}
theorem HasM.of {n m qual : Str} {st : Stmt} {N ps : List Str} {k : Nat} {S : Spec} (D : Dm K n m qual st ps) (sc : FnScope N ps (defScope st)) (len : ∀ A Q R, S A Q R → A.length = ps.length)
    (body : ∀ (f : Addr) (cdv : Value) (A : Around) (outer : List Env) (s : Shared) (H : Hp) (E : XK), Room k (A.deeper (envOfC qual (defScope st) s.heap.objs.size f cdv)) → ∀ Γ Q R, S Γ Q R →
      ST (cxOf (CXm P w K) P w K mg base N qual (defScope st) f cdv A outer s H E) (defBody st) (Γ ++ List.replicate (N.length - ps.length) .no) (finX Q R)) :
    HasM P w K mg base (k + 1) n m ps S := by
  obtain ⟨C0, f, fd, hC0, hM, F, hb⟩ := D.ex
  refine ⟨fun C hC => ⟨f, fd, by obtain rfl := ns_one hC0 hC; exact hM, hb, F.okM sc (fun vs H Q E ⟨F0, A, s, r, ap, h⟩ => ?_) (fun cdv A outer s H vs Q E hr h => ?_)⟩⟩
  · rw [r.len]; exact len _ _ _ h
  · obtain ⟨F0, A0, sm, r, ap, h⟩ := h
    refine ⟨_, psW, ?_⟩
    have hl := len _ _ _ h
    have L0 := lc_start (K := K) sm r ap (N.length - ps.length)
    have L1 : Lc K ⟨F0, H, MA A0⟩ F0 H (L2.start N vs) (A0 ++ List.replicate (N.length - ps.length) .no) := by
      unfold L2.start
      rw [show vs.length = ps.length from r.len.trans hl]
      exact L0
    refine body f cdv A outer s H E hr A0 _ _ h ⟨F0, H, MA A0⟩ F0 H _ _ L1 ⟨fun F' H' σ' Γ' _ hq L => ?_, fun r v F' H' hq ex ok => hq v F' H' ex ok, fun _ _ _ _ _ z => z.elim, fun _ _ _ _ _ z => z.elim, fun F1 H1 σ' Γ' x u d _ hq L ok => ?_⟩
    · exact hq .non F' H' L.ext rfl
    · exact XW.of (takes_ofm rfl rfl rfl rfl) (hq u d F1 H1 L.ext (ok.imp fun b h => h.1))
theorem HasM.ofI {n m qual : Str} {st : Stmt} {N ps : List Str} {k : Nat} {S : Spec} (D : Dm K n m qual st ps) (sc : FnScope N ps (defScope st)) (len : ∀ A Q R, S A Q R → A.length = ps.length)
    (body : ∀ (f : Addr) (cdv : Value) (A : Around) (outer : List Env) (s : Shared) (H : Hp) (E : XK), Room k (A.deeper (envOfC qual (defScope st) s.heap.objs.size f cdv)) → ∀ Γ Q R, S Γ Q R →
      ∃ o, ST (cxOf (CXm P w K) P w K mg base N qual (defScope st) f cdv A outer s H E) (defBody st) (Γ ++ List.replicate (N.length - ps.length) .no) (finI o Q R)) :
    HasM P w K mg base (k + 1) n m ps S := by
  obtain ⟨C0, f, fd, hC0, hM, F, hb⟩ := D.ex
  refine ⟨fun C hC => ⟨f, fd, by obtain rfl := ns_one hC0 hC; exact hM, hb, F.okM sc (fun vs H Q E ⟨F0, A, s, r, ap, h⟩ => ?_) (fun cdv A outer s H vs Q E hr h => ?_)⟩⟩
  · rw [r.len]; exact len _ _ _ h
  · obtain ⟨F0, A0, sm, r, ap, h⟩ := h
    refine ⟨_, psW, ?_⟩
    have hl := len _ _ _ h
    have L0 := lc_start (K := K) sm r ap (N.length - ps.length)
    have L1 : Lc K ⟨F0, H, MA A0⟩ F0 H (L2.start N vs) (A0 ++ List.replicate (N.length - ps.length) .no) := by
      unfold L2.start
      rw [show vs.length = ps.length from r.len.trans hl]
      exact L0
    obtain ⟨o, hbody⟩ := body f cdv A outer s H E hr A0 _ _ h
    refine hbody ⟨F0, H, MA A0⟩ F0 H _ _ L1 ⟨fun F' H' σ' Γ' _ hq L => ?_, fun r v F' H' hq ex ok => hq v F' H' ex ok, fun _ _ _ _ _ z => z.elim, fun _ _ _ _ _ z => z.elim, fun F1 H1 σ' Γ' x u d _ hq L ok => ?_⟩
    · obtain ⟨o', hg, hr', hq⟩ := hq
      obtain ⟨v, ev, ok', f'⟩ := slot_own L hg
      refine hq .non F' H' L.ext ⟨rfl, fun o2 h2 => ?_, List.pairwise_singleton _ _⟩
      rw [List.mem_singleton.mp h2]
      exact ⟨by rw [← o'.rt ok']; exact ok', fun b hb => ⟨(f' b hb).2, (f' b hb).1⟩⟩
    · exact XW.of (takes_ofm rfl rfl rfl rfl) (hq u d F1 H1 L.ext (ok.imp fun b h => h.1))
end
section
variable {X : Cx} {Γ : List Slot} {α β γ : Type} {i : Rep α} {j : Rep β} {pos p p2 : Pos} {e a b c : Expr} {es : List Expr} {E : SE} {rest body : List Stmt}
theorem st_setF (k : Nat) {n f : Str} {C ad dx : Addr} {fs : List (Str × Slot)} {x : α} {p' : Pos} (he : EV X Γ e x) (hr : ST X rest (Γ.set k (.own (ownI C ad dx (fs ++ [(f, .val i x)])))) E) (hc : Cls X.K C) (hn : NoAttr X.K C f) (hnew : fs.lookup f = none) (hz : fs.length < 1000 := by simp)
    (hg : autoParam (Γ[k]? = some (.own (ownI C ad dx fs))) aRfl) (hN : autoParam (X.N[k]? = some n) aRfl) (hv : autoParam (Vis X.env.scope n) aVis) (hd : autoParam ((n == ("__debug__" : Str)) = false) aDec) (hcd : autoParam ((n == ("__classdict__" : Str)) = false) aDec)
    (hs : autoParam (swapsWith e (some (.Attribute (.Name n p) f p')) pos.line X.env = pure false) aRfl) : ST X (.Assign [.Attribute (.Name n p) f p'] e pos :: rest) Γ E := fun B F H σ D L ed => by
  obtain ⟨v, ev, ok, _⟩ := slot_own L hg
  obtain ⟨rfl, _⟩ := ok
  refine WP.cons (ps_fld (pe_var hN hv hd hcd) peW hs) (he B F H σ _ L fun u F1 H1 e1 r1 => ⟨_, ev, ?_⟩)
  have L1 := L.step e1
  obtain ⟨v', ev', ⟨_, nn, h1, fv, h2, r⟩, f1⟩ := slot_own L1 hg
  refine ⟨ad, C, dx, fv, rfl, h2, hc, hn, by rw [r.len]; exact hz, ?_⟩
  refine hr B F1 _ σ D (L1.updO hg ev (fun b u hb q => ?_) (fun b hb => ?_) (fun b hb => .inl hb) ⟨rfl, nn, ?_, putF f u fv, upd_same, r.put hnew r1⟩) (ed.weak e1.ff)
  · rw [upd_ne (fun z => hb (by rw [z]; show ad ∈ [ad, dx]; simp))]; exact q
  · by_cases hba : b = ad
    · rw [hba, upd_same]; exact fun z => nomatch z
    · rw [upd_ne hba]
      have hb' : b = ad ∨ b = dx := by
        have : b ∈ [ad, dx] := hb
        simpa using this
      rcases hb' with rfl | rfl
      · exact absurd rfl hba
      · rw [h1]; exact fun z => nomatch z
  · rw [upd_ne (Ne.symm nn)]; exact h1
theorem ev_fld {α : Type} [t : Inst α] {x : α} {y : β} {n f : Str} (hc : OC X.K X.mg n) (hn : NoA X.K n f) (hx : t.cls x = n) (hf : (t.flds x).lookup f = some (.val j y)) (h : EV X Γ e x) (hb : autoParam (attributeBase e f X.env (eval e X.env) = eval e X.env) aRfl) : EV X Γ (.Attribute e f pos) y := fun B F H σ Q L q =>
  WE.of (pe_fld peW hb) (h B F H σ _ L fun v F1 H1 e1 r1 => by
    obtain ⟨C, kC, gC⟩ := hc
    obtain ⟨ad, C', dx, fv, rfl, hC, h1, h2, r⟩ := r1
    rw [hx] at hC
    obtain rfl := ns_one kC.ns hC
    obtain ⟨v, hv, rv⟩ := r.get hf
    exact ⟨ad, C', dx, fv, v, rfl, (L.step e1).same _ _ h1, kC.cl, hn C' kC.ns, hv, q v F1 H1 e1 rv⟩)
theorem ev_isiI {α : Type} [t : Inst α] {x : α} {n c : Str} {k : Bool} (hm : X.mg "isinstance" = none) (hx : OC X.K X.mg n) (hc : OC X.K X.mg c) (hk : OSub X.K n c k) (hn : t.cls x = n) (h : EV X Γ e x) (hg : autoParam (Gl X "isinstance") aRfl) (hgT : autoParam (Gl X c) aRfl) (hdT : autoParam ((c == ("__debug__" : Str)) = false) aDec)
    (hs : autoParam (starEach [e, .Name c p2] X.env = (false, eval e X.env) :: starEach [.Name c p2] X.env) aStar) (hs2 : autoParam (starEach [.Name c p2] X.env = (false, eval (.Name c p2) X.env) :: starEach [] X.env) aStar) (hpl : autoParam ((backTo pos (starEach [.Name c p2] X.env)).any (·.1) = false) aPl) :
    EV X Γ (.Call (.Name "isinstance" p) [e, .Name c p2] [] pos) k := fun B F H σ Q L q => by
  obtain ⟨D, xD, gD⟩ := hc
  obtain ⟨C, xC, gC⟩ := hx
  refine WE.of (pe_callB call_isi hg hm (by decide +kernel) (pa_cons peW (pa_cons (pe_glob (v := .ref D) hgT gD rfl hdT) pa_nil hs2) hs) (by decide) (by decide) hs hpl) (h B F H σ _ L fun v F1 H1 e1 r1 => ?_)
  obtain ⟨ad, C', dx, fv, rfl, hC, h1, h2, r⟩ := r1
  rw [hn] at hC
  obtain rfl := ns_one xC.ns hC
  exact ⟨.ref ad, .ref D, .ref C', .ref D, k, rfl, .own D, .base (.ins ((L.step e1).same _ _ h1) xC.cl xC.ha xC.hn xC.ht xC.hm), hk C' D xC.ns xD.ns, q _ F1 H1 e1 rfl⟩
theorem run_makeS {CX : CXT} {f C : Addr} {fd : FuncData} {ps : List Str} {sp : Sp} {k : Nat} {EE : XK} {pins : List (Addr × Obj)} {σ : L2.St} {H : Hp} {s : Shared} {Q : VK} {us : List Value} {vs : List V} (M : Mk X.K C f) (F : FnOk X.prog X.w X.K X.mg X.base CX k f fd ps sp) (hr : Room (k + 1) X.A) (hb : Binds X.K fd ps [])
    (hx : PassesAt CX X σ EE) (I : Inv X pins σ H s) (r : Vals vs us)
    (h : ∀ x dx, H x = none → H dx = none → dx ≠ x → sp (.ref x :: vs) (upd (upd H dx (.own x)) x (.ins C dx [])) (fun v H2 => v = .non ∧ Q (.ref x) H2) EE) :
    wpAny (model X.prog X.w) X.A (call (.ref C) us) (EP X pins σ Q) X.xe s := by
  have hq := h (s.heap.objs.size + 1) s.heap.objs.size (I.hok.fresh (Nat.le_succ _)) (I.hok.fresh (Nat.le_refl _)) (Nat.ne_of_lt (Nat.lt_succ_self _))
  have I2 := Inv.made (C := C) I
  have r2 : Vals (V.ref (s.heap.objs.size + 1) :: vs) (Value.ref (s.heap.objs.size + 1) :: us) := .cons rfl r
  have hl : (Value.ref (s.heap.objs.size + 1) :: us).length = ps.length := by
    have e := r2.length
    rw [F.len _ _ _ _ hq] at e
    exact e.symm
  have b := hb _ (Value.ref (s.heap.objs.size + 1) :: us) I2.kIn (by rw [List.append_nil]; exact hl)
  rw [List.append_nil] at b
  refine wpAny_call (make_map (f := f) I.kIn M.makes M.init (beq_iff_eq.mp M.fn) (codeAny_mono (F.run _ X.stack _ _ ⟨Value.ref (s.heap.objs.size + 1) :: us, []⟩ (Value.ref (s.heap.objs.size + 1) :: us) _ _ EE (hr.make C us [])
    (I2.env0.make C us []) b r2 hq) fun r s' hq' => ?_))
  cases r with
  | error e => exact hx pins _ _ e s' I2 hq'
  | ok fl =>
    cases fl with
    | ret u =>
      obtain ⟨v, H', I3, rv, ev, q3⟩ := I2.after hq'
      subst ev
      exact ⟨rv, ⟨V.ref (s.heap.objs.size + 1), H', I3, rfl, q3⟩⟩
    | next => exact False.elim hq'
    | brk => exact False.elim hq'
    | cont => exact False.elim hq'
theorem exx_make {n : Str} {k : Nat} {ps : List Str} {S : Spec} {A : List Slot} {P : Ret → Prop} {R : Exn → Prop} {fs : List (Str × Slot)} (hc : OC X.K X.mg n) (G : HasM X.prog X.w X.K X.mg X.base k n "__init__" ps S) (hr : Room (k + 1) X.A) (ha : EA X Γ (e :: es) A)
    (hS : ∀ C, PySem.W.nsIn X.K mainGlobals n = some (some (.ref C)) → ∀ ad dx, ∀ P' R', (P (.own fun o => ∃ ad dx, o = ownI C ad dx fs) → P' (.chg repUnit () [ownI C ad dx fs])) → (∀ y, R y → R' y) → S (.own (ownI C ad dx []) :: A) P' R') (hg : autoParam (Gl X n) aRfl) (hd : autoParam ((n == ("__debug__" : Str)) = false) aDec)
    (he : autoParam (starEach (e :: es) X.env = (false, eval e X.env) :: starEach es X.env) aStar) (hpl : autoParam ((backTo pos (starEach es X.env)).any (·.1) = false) aPl) : EXX X Γ (.Call (.Name n p) (e :: es) [] pos) P R := fun B F H σ Q L q z => by
  obtain ⟨C, kC, gC⟩ := hc
  obtain ⟨f, fd, hM, hb, GF⟩ := G.ex C kC.ns
  have M : Mk X.K C f := ⟨kC.mks, hM.at_, hM.fn, kC.kp⟩
  refine ⟨fun pins s I => ?_⟩
  refine wpAny_Call_Name_kw (ld_glob I hg gC ?_ hd)
  refine PySem.W.callWith_K (h₀ := X.base) I.ok.mod.kin kC.kp (thn ((ha B F H σ (fun vs H1 => ∃ F1, Ext F H F1 H1 ∧ VsOk X.K F1 vs A) L (fun vs F1 H1 e1 r1 => ⟨F1, e1, r1⟩)).go pos pins s I) fun us s1 ⟨vs, H1, I1, rvs, F1, e1, r1⟩ => ⟨I1.kIn, ?_⟩) he hpl
  refine run_makeS (EE := fun cls d H => XW X cls d σ H) M GF hr hb (passAtm takesW σ) I1 rvs fun ad dx had hdx hne => ?_
  have s1' := (L.step e1).same
  have ea : Ext F1 H1 F1 (upd (upd H1 dx (.own ad)) ad (.ins C dx [])) := by
    have x1 := Ext.apart (o := .own ad) s1' hdx
    exact x1.trans (Ext.apart (o := .ins C dx []) x1.fh (by rw [upd_ne (Ne.symm hne)]; exact had))
  have e2 := e1.trans ea
  have nA : noOwn A = true := by
    refine List.all_eq_true.mpr fun t ht => ?_
    cases t with
    | own o => exact absurd ht (r1.no o)
    | no => rfl
    | val i x => rfl
  have maN : ∀ b, MA (.own (ownI C ad dx []) :: A) b → H1 b = none := fun b m => by
    have hb := ma_one nA m
    have hb' : b = ad ∨ b = dx := by
      have : b ∈ [ad, dx] := hb
      simpa using this
    rcases hb' with rfl | rfl
    · exact had
    · exact hdx
  have fN : ∀ b ∈ [ad, dx], F1 b = none := fun b hb => by
    have hb' : b = ad ∨ b = dx := by simpa using hb
    rcases hb' with rfl | rfl
    · exact s1'.free had
    · exact s1'.free hdx
  have toExt : ∀ {F2 H2}, ExtM (MA (.own (ownI C ad dx []) :: A)) F1 (upd (upd H1 dx (.own ad)) ad (.ins C dx [])) F2 H2 → Ext F H F2 H2 := fun {F2 H2} x => e1.trans (ea.thenM x maN)
  have toN : ∀ b, Bs.nw ⟨F1, upd (upd H1 dx (.own ad)) ad (.ins C dx []), MA (.own (ownI C ad dx []) :: A)⟩ b → H b = none := fun b h => h.elim (fun w => e1.hs.free (ea.hs.free w)) fun m => e1.hs.free (maN b m)
  refine ⟨F1, .own (ownI C ad dx []) :: A, ea.fh, ⟨⟨rfl, Ne.symm hne, ?_, [], upd_same, trivial⟩, fN, r1.toO⟩, apart_one nA, hS C kC.ns ad dx _ _ (fun hP v F2 H2 x2 ok => ?_) fun y hy u d F2 H2 x2 ok => ?_⟩
  · rw [upd_ne hne, upd_same]
  · obtain ⟨rv0, fo, _⟩ := ok
    obtain ⟨ok', f'⟩ := fo _ (List.mem_singleton.mpr rfl)
    exact ⟨rv0, q _ (.ref ad) F2 H2 hP (toExt x2) ⟨ownI C ad dx fs, ⟨ad, dx, rfl⟩, fun b hb => ⟨toN b (f' b hb).1, (f' b hb).2⟩, ok'⟩⟩
  · exact z y u d F2 H2 hy (toExt x2) (ok.imp toN)
theorem exx_meth0 {α : Type} [t : Inst α] {x : α} {n m : Str} {k : Nat} {ps : List Str} {S : Spec} {P : Ret → Prop} {R : Exn → Prop} {o : Expr} {apos : Pos} {pl : Sem Bool} (hc : OC X.K X.mg n) (G : HasM X.prog X.w X.K X.mg X.base k n m ps S) (hr : Room k X.A) (hx : t.cls x = n) (hm : (t.flds x).lookup m = none) (ho : EV X Γ o x)
    (hS : ∀ P' R', (∀ r, P r → P' r) → (∀ y, R y → R' y) → S [.val repInst x] P' R')
    (ht : autoParam (eval (.Call (.Attribute o m apos) [] [] pos) X.env = (do
      let ov ← eval o X.env
      standAt apos.atName
      let (f, first) ← holding [ov] (getMethod ov m pl)
      callWith pos f first (backTo pos (starEach [] X.env)) (backToKw pos (keywordEach [] X.env)))) aRfl) : EXX X Γ (.Call (.Attribute o m apos) [] [] pos) P R := fun B F H σ Q L q z => by
  obtain ⟨C, kC, gC⟩ := hc
  obtain ⟨f, fd, hM, hb, GF⟩ := G.ex C kC.ns
  refine ⟨fun pins s I => ?_⟩
  refine PySem.W.methodCall_KW (pl := pl) (thn ((ho B F H σ (fun v H1 => ∃ F1, Ext F H F1 H1 ∧ repInst.rp X.K F1 v x) L (fun v F1 H1 e1 r1 => ⟨F1, e1, r1⟩)).go pins s I) fun u s1 ⟨v, H1, I1, rv1, F1, e1, r1⟩ => ?_) ht
  obtain ⟨ad, C', dx, fv, rfl, hC, h1, h2, r⟩ := id r1
  rw [hx] at hC
  obtain rfl := ns_one kC.ns hC
  obtain rfl : u = Value.ref ad := rv1
  refine getmeth_ok I1 ((L.step e1).same _ _ h1) kC.cl hM (r.no hm) ?_
  have rA : VsOk X.K F1 [.ref ad] [.val repInst x] := ⟨r1, trivial⟩
  refine PySem.W.callWith_K0 (first := [.ref ad]) I1.kIn hM.kp (run_fnS (E := fun σ cls d H => XW X cls d σ H) (us := [.ref ad]) (vs := [.ref ad]) GF hr hb (passAtm takesW σ) I1 (.cons rfl .nil) ?_)
  exact ⟨F1, _, (L.step e1).same, rA.toO, rA.apart, hS _ _ (fun r hr v F3 H3 e3 ok => q r v F3 H3 hr (e1.thenM e3 fun _ m => (rA.ma m).elim) (ok.imp fun b h => e1.hs.free (h.elim id fun m => (rA.ma m).elim))) fun y hy u d F3 H3 e3 ok => z y u d F3 H3 hy (e1.thenM e3 fun _ m => (rA.ma m).elim) (ok.imp fun b h => e1.hs.free (h.elim id fun m => (rA.ma m).elim))⟩
theorem ex_of_exx {P : Ret → Prop} (h : EXX X Γ e P fun _ => False) : EX X Γ e P := fun B F H σ Q L q => h B F H σ Q L q fun _ _ _ _ _ z => z.elim
noncomputable def CInit (K : PySem.W.Frag) (n : Str) : Prop := ∀ C f, PySem.W.nsIn K mainGlobals n = some (some (.ref C)) → PySem.W.findIn K (.ref C) "__init__" = some (some (.ref f)) →
  PySem.W.specialIn K (.ref C) "__getattribute__" = some (some (.builtin "type.__getattribute__")) ∧ PySem.W.readsIn K C (.type "type") = true ∧ PySem.W.findCls K (.ref C) (.type "type") "__init__" = some (.val (.ref f))
theorem CInit.mk {K : PySem.W.Frag} {n : Str} {C f : Addr} (a : PySem.W.nsIn K mainGlobals n = some (some (.ref C))) (b : PySem.W.findIn K (.ref C) "__init__" = some (some (.ref f))) (c1 : PySem.W.specialIn K (.ref C) "__getattribute__" = some (some (.builtin "type.__getattribute__"))) (c2 : PySem.W.readsIn K C (.type "type") = true)
    (c3 : PySem.W.findCls K (.ref C) (.type "type") "__init__" = some (.val (.ref f))) : CInit K n := fun C' f' e1 e2 => by
  obtain rfl := ns_one a e1
  rw [b] at e2
  cases e2
  exact ⟨c1, c2, c3⟩
theorem eg_cinit (k : Nat) {n : Str} {kk : Nat} {ps : List Str} {S : Spec} {o : Own} {A : List Slot} {P : Ret → List Slot → Prop} {R : Exn → List Slot → Prop} {G : Unit → Own → Prop} {p1 p2 : Pos} {pl : Sem Bool} (hc : OC X.K X.mg n) (hi : CInit X.K n) (GH : HasM X.prog X.w X.K X.mg X.base kk n "__init__" ps S) (hr : Room kk X.A)
    (ha : EAb X Γ (e :: es) (.own o :: A)) (hA : noOwn A = true) (hg : Γ[k]? = some (.own o)) (hG : ∀ x o', G x o' → o'.root = o.root) (hP : ∀ x o', G x o' → P (.val repUnit x) (Γ.set k (.own o'))) (hS : ∀ P' R', (∀ x o', G x o' → P' (.chg repUnit x [o'])) → (∀ y, R y (Γ.set k .no) → R' y) → S (.own o :: A) P' R') (hgl : autoParam (Gl X n) aRfl)
    (hd : autoParam ((n == ("__debug__" : Str)) = false) aDec)
    (ht : autoParam (eval (.Call (.Attribute (.Name n p1) "__init__" p2) (e :: es) [] pos) X.env = (do
      let ov ← eval (.Name n p1) X.env
      standAt p2.atName
      let (f, first) ← holding [ov] (getMethod ov "__init__" pl)
      callWith pos f first (backTo pos (starEach (e :: es) X.env)) (backToKw pos (keywordEach [] X.env)))) aRfl)
    (he : autoParam (starEach (e :: es) X.env = (false, eval e X.env) :: starEach es X.env) aStar) (hpl : autoParam ((backTo pos (starEach es X.env)).any (·.1) = false) aPl) : EG X Γ (.Call (.Attribute (.Name n p1) "__init__" p2) (e :: es) [] pos) P R := fun B F H σ Q L q z => by
  obtain ⟨C, kC, gC⟩ := hc
  obtain ⟨f, fd, hM, hb, GF⟩ := GH.ex C kC.ns
  obtain ⟨i1, i2, i3⟩ := hi C f kC.ns hM.at_
  refine ⟨fun pins s I => ?_⟩
  refine PySem.W.methodCall_KW (ld_glob I hgl gC ?_ hd) ht
  refine PySem.W.method_cls I.kIn i1 (PySem.W.cls_value I.kIn i2 i3 (by rfl) ?_)
  refine PySem.W.callWith_K (first := []) (h₀ := X.base) I.ok.mod.kin hM.kp (thn ((ha B F H σ (fun vs H1 => ∃ F1, Ext F H F1 H1 ∧ VsOkO X.K F1 H1 vs (.own o :: A)) L (fun vs F1 H1 e1 r1 => ⟨F1, e1, r1⟩)).go pos pins _ (I.tok _)) fun us s1 ⟨vs, H1, I1, rvs, F1, e1, r1⟩ => ⟨I1.kIn, ?_⟩) he hpl
  refine run_fnS (E := fun σ cls d H => XW X cls d σ H) GF hr hb (passAtm takesW σ) I1 rvs ?_
  exact ⟨F1, _, (L.step e1).same, r1, apart_one hA, hS _ _ (fun x o' hx => borrow_rets hg L e1 (fun b m => ma_one hA m) hG hP q hx) fun y hy => borrow_exns hg L e1 (fun b m => ma_one hA m) z hy⟩
end
end Tw
namespace Tw
open PySem PySem.Spec PyProof.Rows L2 TL
noncomputable def HetOk (K : PySem.W.Frag) (F : Hp) : List V → List Slot → Prop
  | [], [] => True
  | v :: vs, s :: A => SlotV K F v s ∧ HetOk K F vs A
  | _, _ => False
theorem HetOk.mono {K : PySem.W.Frag} {F F' : Hp} (s : Same F F') : ∀ {vs : List V} {A : List Slot}, HetOk K F vs A → HetOk K F' vs A
  | [], [], _ => trivial
  | v :: vs, t :: A, h => ⟨h.1.mono s, HetOk.mono s h.2⟩
  | [], _ :: _, h => h.elim
  | _ :: _, [], h => h.elim
theorem HetOk.len {K : PySem.W.Frag} {F : Hp} : ∀ {vs : List V} {A : List Slot}, HetOk K F vs A → vs.length = A.length
  | [], [], _ => rfl
  | v :: vs, t :: A, h => by rw [List.length_cons, List.length_cons, HetOk.len h.2]
  | [], _ :: _, h => h.elim
  | _ :: _, [], h => h.elim
theorem HetOk.get {K : PySem.W.Frag} {F : Hp} : ∀ {vs : List V} {A : List Slot} {k : Nat} {s : Slot}, HetOk K F vs A → A[k]? = some s → ∃ v, vs[k]? = some v ∧ SlotV K F v s
  | [], [], _, _, _, h => by cases h
  | v :: vs, t :: A, 0, s, h, e => by
    have : t = s := by simpa using e
    subst this
    exact ⟨v, rfl, h.1⟩
  | v :: vs, t :: A, k + 1, s, h, e => by
    obtain ⟨u, hu, r⟩ := HetOk.get (k := k) h.2 (by simpa using e)
    exact ⟨u, by simpa using hu, r⟩
  | [], _ :: _, _, _, h, _ => h.elim
  | _ :: _, [], _, _, h, _ => h.elim
theorem HetOk.set {K : PySem.W.Frag} {F : Hp} {v : V} {s : Slot} (r : SlotV K F v s) : ∀ {vs : List V} {A : List Slot} (k : Nat), HetOk K F vs A → HetOk K F (vs.set k v) (A.set k s)
  | [], [], _, _ => trivial
  | _ :: _, _ :: _, 0, h => ⟨r, h.2⟩
  | _ :: _, _ :: _, k + 1, h => ⟨h.1, HetOk.set r k h.2⟩
  | [], _ :: _, _, h => h.elim
  | _ :: _, [], _, h => h.elim
class Het (α : Type) where
  els : α → List Slot
noncomputable instance (priority := low) repHet {α : Type} [t : Het α] : Rep α := ⟨fun K F v x => ∃ a vs, v = .ref a ∧ F a = some (.lst vs) ∧ HetOk K F vs (t.els x), fun s ⟨a, vs, e, h, r⟩ => ⟨a, vs, e, s _ _ h, r.mono s⟩⟩
section
variable {X : Cx} {Γ : List Slot} {α β γ : Type} {i : Rep α} {j : Rep β} {pos p p2 : Pos} {e a b c : Expr} {es : List Expr} {E : SE} {rest body : List Stmt}
theorem st_setFR {n f : Str} {p' : Pos} {R : Exn → Prop} (he : EXX X Γ e (fun _ => False) R) (hR : ∀ x, R x → E.ex Γ x) (k : Nat) (hN : autoParam (X.N[k]? = some n) aRfl) (hv : autoParam (Vis X.env.scope n) aVis) (hd : autoParam ((n == ("__debug__" : Str)) = false) aDec) (hcd : autoParam ((n == ("__classdict__" : Str)) = false) aDec)
    (hs : autoParam (swapsWith e (some (.Attribute (.Name n p) f p')) pos.line X.env = pure false) aRfl) : ST X (.Assign [.Attribute (.Name n p) f p'] e pos :: rest) Γ E := fun B F H σ D L ed =>
  WP.cons (ps_fld (pe_var hN hv hd hcd) peW hs) (he B F H σ _ L (fun r v F1 H1 er e1 r1 => er.elim) fun x u d F1 H1 hx e1 ok => ed.exS (Same.refl F) (hR x hx) L e1 ok)
noncomputable def strI (n : Int) : Tx := tl (Str.ofString (toString n))
theorem ev_strI {n : Int} (hm : X.mg "str" = none) (h : EV X Γ e n) (hz : n.natAbs.log2 < 1920) (hg : autoParam (Gl X "str") aRfl) (hs : autoParam (starEach [e] X.env = (false, eval e X.env) :: starEach [] X.env) aStar) (hpl : autoParam ((backTo pos (starEach [] X.env)).any (·.1) = false) aPl) :
    EV X Γ (.Call (.Name "str" p) [e] [] pos) (strI n) :=
  ev_callT1 call_str_int hm (by decide +kernel) h (fun F H v Q s r q => ⟨n, by rw [show v = V.int n from r], hz, q _ F H (Ext.refl s) (by show V.str _ = V.str _; unfold strI; rw [sx_tl])⟩) hg (by decide) (by decide) hs hpl
theorem ev_pow {x y : Int} (h : CPow x y) (ha : EV X Γ a x) (hb : EV X Γ b y) : EV X Γ (.BinOp a .Pow b pos) (x ^ y.toNat) := ev_bin (ob_I op_pow h) ha hb
theorem ev_meth0 {α : Type} [t : Inst α] {x : α} {y : β} {n m : Str} {k : Nat} {ps : List Str} {S : Spec} {o : Expr} {apos : Pos} {pl : Sem Bool} (hc : OC X.K X.mg n) (G : HasM X.prog X.w X.K X.mg X.base k n m ps S) (hr : Room k X.A) (hx : t.cls x = n) (hm : (t.flds x).lookup m = none) (ho : EV X Γ o x) (hS : ∀ P' R', P' (.val j y) → S [.val repInst x] P' R')
    (ht : autoParam (eval (.Call (.Attribute o m apos) [] [] pos) X.env = (do
      let ov ← eval o X.env
      standAt apos.atName
      let (f, first) ← holding [ov] (getMethod ov m pl)
      callWith pos f first (backTo pos (starEach [] X.env)) (backToKw pos (keywordEach [] X.env)))) aRfl) : EV X Γ (.Call (.Attribute o m apos) [] [] pos) y :=
  ev_of_ex (ex_of_exx (exx_meth0 hc G hr hx hm ho (fun P' R' h _ => hS P' R' (h _ rfl)) ht))
theorem en_meth0 {α : Type} [t : Inst α] {x : α} {ys : List β} {n m : Str} {k : Nat} {ps : List Str} {S : Spec} {o : Expr} {apos : Pos} {pl : Sem Bool} (hc : OC X.K X.mg n) (G : HasM X.prog X.w X.K X.mg X.base k n m ps S) (hr : Room k X.A) (hx : t.cls x = n) (hm : (t.flds x).lookup m = none) (ho : EV X Γ o x) (hS : ∀ P' R', P' (.new j ys) → S [.val repInst x] P' R')
    (ht : autoParam (eval (.Call (.Attribute o m apos) [] [] pos) X.env = (do
      let ov ← eval o X.env
      standAt apos.atName
      let (f, first) ← holding [ov] (getMethod ov m pl)
      callWith pos f first (backTo pos (starEach [] X.env)) (backToKw pos (keywordEach [] X.env)))) aRfl) : EN X Γ (.Call (.Attribute o m apos) [] [] pos) ys :=
  en_of_ex (ex_of_exx (exx_meth0 hc G hr hx hm ho (fun P' R' h _ => hS P' R' (h _ rfl)) ht))
end
end Tw
namespace Tw
open PySem PySem.Spec PyProof.Rows L2 TL
section
variable {X : Cx} {Γ : List Slot} {α β γ : Type} {i : Rep α} {j : Rep β} {pos p p2 : Pos} {e a b c : Expr} {es : List Expr} {E : SE} {rest body : List Stmt}
theorem exx_makeV {α : Type} [t : Inst α] {x : α} {n : Str} {k : Nat} {ps : List Str} {S : Spec} {A : List Slot} {R : Exn → Prop} (hc : OC X.K X.mg n) (G : HasM X.prog X.w X.K X.mg X.base k n "__init__" ps S) (hr : Room (k + 1) X.A) (hx : t.cls x = n) (ha : EA X Γ (e :: es) A)
    (hS : ∀ C, PySem.W.nsIn X.K mainGlobals n = some (some (.ref C)) → ∀ ad dx, ∀ P' R', P' (.chg repUnit () [ownI C ad dx (t.flds x)]) → (∀ y, R y → R' y) → S (.own (ownI C ad dx []) :: A) P' R') (hg : autoParam (Gl X n) aRfl) (hd : autoParam ((n == ("__debug__" : Str)) = false) aDec)
    (he : autoParam (starEach (e :: es) X.env = (false, eval e X.env) :: starEach es X.env) aStar) (hpl : autoParam ((backTo pos (starEach es X.env)).any (·.1) = false) aPl) : EXX X Γ (.Call (.Name n p) (e :: es) [] pos) (fun r => r = .val repInst x) R := fun B F H σ Q L q z => by
  obtain ⟨C, kC, gC⟩ := id hc
  refine exx_make (P := fun r => r = .own fun o => ∃ ad dx, o = ownI C ad dx (t.flds x)) (R := R) (fs := t.flds x) hc G hr ha (fun C' e' ad dx P' R' h1 h2 => by
    obtain rfl := ns_one kC.ns e'
    exact hS _ e' ad dx P' R' (h1 rfl) h2) hg hd he hpl B F H σ _ L (fun r v F1 H1 er e1 r1 => ?_) z
  subst er
  obtain ⟨o, ⟨ad, dx, rfl⟩, f, ok1⟩ := r1
  have s1 := (L.step e1).same
  have f0 : ∀ b ∈ [ad, dx], F1 b = none := fun b hb => (f b hb).2
  refine q _ v (frz F1 H1 [ad, dx]) H1 rfl ⟨e1.ff.trans (frz_le f0), frz_same s1, e1.hh, fun b _ h1 h2 => by
    rw [frz_out (ps := [ad, dx]) (fun hb => h2 (f b hb).1)]; exact e1.nw b h1 h2, fun _ z => z.elim⟩ ?_
  exact frozI (K0 := X.K) (fun K e => by rw [e, hx]; exact kC.ns) s1 ok1 f0
theorem ev_makeV {α : Type} [t : Inst α] {x : α} {n : Str} {k : Nat} {ps : List Str} {S : Spec} {A : List Slot} (hc : OC X.K X.mg n) (G : HasM X.prog X.w X.K X.mg X.base k n "__init__" ps S) (hr : Room (k + 1) X.A) (hx : t.cls x = n) (ha : EA X Γ (e :: es) A)
    (hS : ∀ C, PySem.W.nsIn X.K mainGlobals n = some (some (.ref C)) → ∀ ad dx, ∀ P' R', P' (.chg repUnit () [ownI C ad dx (t.flds x)]) → S (.own (ownI C ad dx []) :: A) P' R') (hg : autoParam (Gl X n) aRfl) (hd : autoParam ((n == ("__debug__" : Str)) = false) aDec)
    (he : autoParam (starEach (e :: es) X.env = (false, eval e X.env) :: starEach es X.env) aStar) (hpl : autoParam ((backTo pos (starEach es X.env)).any (·.1) = false) aPl) : EV X Γ (.Call (.Name n p) (e :: es) [] pos) x :=
  ev_of_ex (ex_of_exx (exx_makeV (R := fun _ => False) hc G hr hx ha (fun C h ad dx P' R' h1 _ => hS C h ad dx P' R' h1) hg hd he hpl))
theorem st_dropR {R : Exn → Prop} (he : EXX X Γ e (fun _ => False) R) (hR : ∀ x, R x → E.ex Γ x) (hs : autoParam (swapsWith e none pos.line X.env = pure false) aRfl) : ST X (.Expr e pos :: rest) Γ E := fun B F H σ D L ed =>
  WP.cons (ps_expr peW hs) (he B F H σ _ L (fun r v F1 H1 z _ _ => z.elim) fun x u d F1 H1 hx e1 ok => ed.exS (Same.refl F) (hR x hx) L e1 ok)
end
end Tw
namespace Tw
open PySem PySem.Spec PyProof.Rows L2 TL
noncomputable def partL (sep x : Tx) : List Tx := match TL.par sep [] x with
  | some (a, b) => [a, sep, b]
  | none => [x, [], []]
theorem partS (sep x : Tx) (h : sep ≠ []) : ([.str (Txt.partition (sx x) (sx sep)).1, .str (Txt.partition (sx x) (sx sep)).2.1, .str (Txt.partition (sx x) (sx sep)).2.2] : List V) = (partL sep x).map fun t => V.str (sx t) := by
  have e := TL.partition_par (sx x) (sx sep) (by rw [tl_sx]; exact h)
  rw [tl_sx, tl_sx] at e
  unfold partL
  cases hp : TL.par sep [] x with
  | none =>
    rw [hp] at e
    rw [e]
    rfl
  | some z =>
    obtain ⟨a, b⟩ := z
    rw [hp] at e
    rw [e]
    rfl
theorem call_list_text {X : Cx} (hcalm : X.calm = true) : CallR X (.type "list") (fun xs H Q => ∃ x : Tx, xs = [.str (sx x)] ∧ x.length ≤ sizeLine ∧ ∀ l, H l = none → Q (.ref l) (upd H l (.lst (x.map fun c => V.str (sx [c]))))) := by
  intro pins s σ H xs us Q I r h
  obtain ⟨x, rfl, hz, q⟩ := h
  obtain ⟨u, rfl, t, rfl⟩ := vals1 r
  have hsz : (sx x).cps.size = x.length := by simp [sx]
  refine PySem.call_list_str (I.ok.hd hcalm) (sx x) t (fun h' tk acc' c' hk e hi => ?_) (by rw [hsz]; exact hz)
  obtain ⟨hs, hi⟩ := hi
  have hv : Vals (x.map fun c => V.str (sx [c])) acc'.toList := by
    have key : ∀ (l : Tx) (vs : List Value), vs.length = l.length → (∀ (j : Nat) (v : Value), vs[j]? = some v → ∃ (c : Nat) (u : Tok), l[j]? = some c ∧ v = Value.str ⟨#[c]⟩ u) → Vals (l.map fun c => V.str (sx [c])) vs := by
      intro l
      induction l with
      | nil =>
        intro vs h1 _
        match vs, h1 with
        | [], _ => exact .nil
      | cons c l ih =>
        intro vs h1 h2
        match vs, h1 with
        | v :: vs, h1 =>
          obtain ⟨c', u, e1, e2⟩ := h2 0 v rfl
          have : c = c' := Option.some.inj e1
          subst this
          exact .cons ⟨u, e2⟩ (ih vs (by simpa using h1) fun j v' hj => h2 (j + 1) v' hj)
    refine key x acc'.toList (by rw [Array.length_toList, hs, hsz]) fun j v hj => ?_
    obtain ⟨c, u, e1, e2⟩ := hi j v (by rw [← Array.getElem?_toList]; exact hj)
    refine ⟨c, u, ?_, e2⟩
    rw [← Array.getElem?_toList] at e1
    exact e1
  refine ⟨.ref s.heap.objs.size, _, I.laid (t' := tk) hk (Nat.le_refl _) (show ObjOk X.prog X.w _ h' _ (.lst _) from ⟨by rw [List.length_map]; exact hz, acc'.toList, c', hv, by rw [Array.toArray_toList]; exact e⟩), rfl, q _ (I.hok.fresh (Nat.le_refl _))⟩
section
variable {X : Cx} {Γ : List Slot} {α β γ : Type} {i : Rep α} {j : Rep β} {pos p p2 : Pos} {e a b c : Expr} {es : List Expr} {E : SE} {rest body : List Stmt}
theorem ev_part {o e : Expr} {x sep : Tx} {apos : Pos} (ho : EV X Γ o x) (he : EV X Γ e sep) (hne : sep ≠ []) (hz : x.length ≤ sizeLine) (hs : autoParam (starEach [e] X.env = [(false, eval e X.env)]) aStar) (hbase : autoParam (attributeBase o "partition" X.env (eval o X.env) = eval o X.env) aRfl)
    (hline : autoParam ((apos.endLine == pos.line) = true) aRfl) : EV X Γ (.Call (.Attribute o "partition" apos) [e] [] pos) (Tup.mk (partL sep x)) := fun B F H σ Q L q =>
  WE.of (pe_partition peW peW hs hbase hline) (ho B F H σ _ L fun v F1 H1 e1 r1 => ⟨⟨_, r1⟩, he B F1 H1 σ _ (L.step e1) fun u F2 H2 e2 r2 => by
    obtain rfl : v = .str (sx x) := r1
    obtain rfl : u = .str (sx sep) := r2
    have hl : (sx sep).length = sep.length := sx_len _
    refine ⟨sx x, sx sep, rfl, rfl, by rw [hl]; cases sep with | nil => exact absurd rfl hne | cons c r => rfl, by rw [sx_len]; exact hz, fun p hp => ?_⟩
    have e12 := e1.trans e2
    have s2 := (L.step e12).same
    rw [partS sep x hne]
    have ea := Ext.new (o := .tup ((partL sep x).map fun t => V.str (sx t))) s2 hp
    refine q (.ref p) _ _ (e12.trans ea) ⟨p, _, rfl, upd_same, ?_⟩
    generalize partL sep x = ys
    induction ys with
    | nil => exact .nil
    | cons y ys ih => exact .cons rfl ih⟩)
theorem ev_intS {x : Tx} {n : Int} (hm : X.mg "int" = none) (h : EV X Γ e x) (hn : PySem.intText? (sx x) = some n) (hz : x.length ≤ 640) (hg : autoParam (Gl X "int") aRfl) (hs : autoParam (starEach [e] X.env = (false, eval e X.env) :: starEach [] X.env) aStar) (hpl : autoParam ((backTo pos (starEach [] X.env)).any (·.1) = false) aPl) :
    EV X Γ (.Call (.Name "int" p) [e] [] pos) n :=
  ev_callT1 call_int_str hm (by decide +kernel) h (fun F H v Q s r q => by
    obtain rfl : v = .str (sx x) := r
    exact ⟨sx x, n, rfl, hn, by rw [sx_len]; exact hz, q _ F H (Ext.refl s) rfl⟩) hg (by decide) (by decide) hs hpl
theorem en_listS {x : Tx} (hm : X.mg "list" = none) (h : EV X Γ e x) (hz : x.length ≤ sizeLine) (hg : autoParam (Gl X "list") aRfl) (hcalm : autoParam (X.calm = true) aRfl) (hs : autoParam (starEach [e] X.env = (false, eval e X.env) :: starEach [] X.env) aStar) (hpl : autoParam ((backTo pos (starEach [] X.env)).any (·.1) = false) aPl) :
    EN X Γ (.Call (.Name "list" p) [e] [] pos) (x.map fun c => ([c] : Tx)) := fun B F H σ Q L q =>
  WE.of (pe_callTy (call_list_text hcalm) hg hm (by decide +kernel) (pa_cons peW pa_nil hs) (by decide) (by decide) hs hpl) (h B F H σ _ L fun v F1 H1 e1 r1 => by
    obtain rfl : v = .str (sx x) := r1
    refine ⟨x, rfl, hz, fun p hp => ?_⟩
    have s1 := (L.step e1).same
    refine q p _ F1 _ (e1.trans (Ext.apart s1 hp)) (e1.hs.free hp) (s1.free hp) upd_same ?_
    have pr : ∀ y : Tx, Paired (fun u t => repTx.rp X.K F1 u t) (y.map fun c => V.str (sx [c])) (y.map fun c => ([c] : Tx)) := fun y => by
      induction y with
      | nil => exact .nil
      | cons c r ih => exact .cons rfl ih
    exact pr x)
theorem eqV_str {x y : Tx} : eqV (.str (sx x)) (.str (sx y)) = decide (x = y) := by
  show decide (sx x = sx y) = _
  exact decide_eq_decide.mpr ⟨fun h => by rw [← tl_sx x, h, tl_sx], fun h => by rw [h]⟩
theorem inV_strs {x : Tx} {ys : List Tx} : inV (.str (sx x)) (ys.map fun t => V.str (sx t)) = decide (x ∈ ys) := by
  induction ys with
  | nil => rfl
  | cons y ys ih =>
    show (eqV _ _ || inV _ _) = _
    rw [ih, eqV_str]
    by_cases h : y = x
    · subst h; simp
    · simp [h, Ne.symm h]
theorem pd_strs {K : PySem.W.Frag} {F : Hp} : ∀ {vs : List V} {ys : List Tx}, Paired (fun u x => repTx.rp K F u x) vs ys → vs = ys.map fun t => V.str (sx t)
  | _, _, .nil => rfl
  | _, _, .cons r p => by
    rw [pd_strs p, List.map_cons]
    congr 1
theorem o_notInLS {x : Tx} {ys : List Tx} : OB X (compareOp .NotIn) x ys (!decide (x ∈ ys)) := fun F H v u Q s r1 r2 q pins s' σ va vb I rv1 rv2 => by
  obtain rfl : v = .str (sx x) := r1
  obtain ⟨ad, vs, rfl, h1, pr⟩ := r2
  obtain rfl := pd_strs pr
  refine op_notIn_seq pins s' σ H _ _ va vb Q I rv1 rv2 ⟨ad, _, rfl, .inl (sq_of s h1), rfl, ?_, ?_⟩
  · rw [List.all_map]; exact List.all_eq_true.mpr fun _ _ => rfl
  · rw [if_pos rfl, inV_strs]
    exact q _ F H (Ext.refl s) rfl
noncomputable def EXA (X : Cx) (Γ : List Slot) (es : List Expr) (R : Exn → Prop) : Prop :=
  ∀ B F H σ, Lc X.K B F H σ Γ → (∀ x u d F' H', R x → Ext F H F' H' → XOk X.K (Nw H) F' H' u d x → XW X u d σ H') → WA X es σ H (fun _ _ => False)
theorem exa_v {x : α} {R : Exn → Prop} (h : EV X Γ e x) (hr : EXA X Γ es R) (hs : autoParam (starEach (e :: es) X.env = (false, eval e X.env) :: starEach es X.env) aStar) : EXA X Γ (e :: es) R := fun B F H σ L z =>
  WA.of (pa_cons peW paW hs) (h B F H σ _ L fun v F1 H1 e1 r1 => hr B F1 H1 σ (L.step e1) fun y u d F2 H2 hy e2 ok => z y u d F2 H2 hy (e1.trans e2) (ok.imp fun b hb => e1.hs.free hb))
theorem exa_x {R : Exn → Prop} (h : EXX X Γ e (fun _ => False) R) (hs : autoParam (starEach (e :: es) X.env = (false, eval e X.env) :: starEach es X.env) aStar) : EXA X Γ (e :: es) R := fun B F H σ L z =>
  WA.of (pa_cons peW (paW (es := es)) hs) (h B F H σ _ L (fun r v F1 H1 hr _ _ => hr.elim) z)
theorem exx_makeA {n : Str} {R : Exn → Prop} (hc : OC X.K X.mg n) (ha : EXA X Γ (e :: es) R) (hg : autoParam (Gl X n) aRfl) (hd : autoParam ((n == ("__debug__" : Str)) = false) aDec)
    (he : autoParam (starEach (e :: es) X.env = (false, eval e X.env) :: starEach es X.env) aStar) (hpl : autoParam ((backTo pos (starEach es X.env)).any (·.1) = false) aPl) : EXX X Γ (.Call (.Name n p) (e :: es) [] pos) (fun _ => False) R := fun B F H σ Q L q z => by
  obtain ⟨C, kC, gC⟩ := hc
  refine ⟨fun pins s I => ?_⟩
  refine wpAny_Call_Name_kw (ld_glob I hg gC ?_ hd)
  exact PySem.W.callWith_K (h₀ := X.base) I.ok.mod.kin kC.kp (thn ((ha B F H σ L z).go pos pins s I) fun us s1 ⟨vs, H1, I1, rvs, hf⟩ => hf.elim) he hpl
end
end Tw
namespace Tw
open PySem PySem.Spec PyProof.Rows L2 TL
structure Dic (κ α : Type) where
  l : List (κ × α)
section
variable {κ : Type} [DecidableEq κ] {α : Type}
noncomputable def look (l : List (κ × α)) (k : κ) : Option α := (l.find? fun p => decide (p.1 = k)).map (·.2)
noncomputable def put (l : List (κ × α)) (k : κ) (v : α) : List (κ × α) := if (l.any fun p => decide (p.1 = k)) = true then l.map (fun p => if p.1 = k then (p.1, v) else p) else l ++ [(k, v)]
theorem look_pos {p : κ × α} {r : List (κ × α)} {k : κ} (e : p.1 = k) : look (p :: r) k = some p.2 := by simp [look, List.find?_cons, e]
theorem look_neg {p : κ × α} {r : List (κ × α)} {k : κ} (e : ¬ p.1 = k) : look (p :: r) k = look r k := by simp [look, List.find?_cons, e]
theorem valV_inj {μ : Type} [DecidableEq μ] {e : κ → μ} (inj : ∀ x y, e x = e y → x = y) (k : κ) : ∀ kvs : List (κ × V), valV (kvs.map fun p => (e p.1, p.2)) (e k) = valV kvs k
  | [] => rfl
  | p :: r => by
    rw [List.map_cons]
    by_cases h : p.1 = k
    · rw [valV_pos (p := (e p.1, p.2)) (congrArg e h), valV_pos h]
    · rw [valV_neg (p := (e p.1, p.2)) fun z => h (inj _ _ z), valV_neg h, valV_inj inj k r]
theorem putK_inj {μ : Type} [DecidableEq μ] {e : κ → μ} (inj : ∀ x y, e x = e y → x = y) (k : κ) (v : V) (kvs : List (κ × V)) : putK (kvs.map fun p => (e p.1, p.2)) (e k) v = (putK kvs k v).map fun p => (e p.1, p.2) := by
  unfold putK
  rw [List.any_map]
  have : (fun p : κ × V => decide (p.1 = k)) = ((fun kv : μ × V => decide (kv.1 = e k)) ∘ fun p : κ × V => (e p.1, p.2)) := by
    funext p
    exact decide_eq_decide.mpr ⟨fun z => congrArg e z, fun z => inj _ _ z⟩
  rw [← this]
  split
  · rw [List.map_map, List.map_map]
    refine List.map_congr_left fun p _ => ?_
    show (if e p.1 = e k then (e p.1, v) else (e p.1, p.2)) = (fun p : κ × V => (e p.1, p.2)) (if p.1 = k then (p.1, v) else p)
    by_cases h : p.1 = k
    · rw [if_pos h, if_pos (congrArg e h)]
    · rw [if_neg h, if_neg fun z => h (inj _ _ z)]
  · rw [List.map_append]; rfl
end
class DKey (κ : Type) [i : Rep κ] [DecidableEq κ] where
  ho : List (κ × V) → HO
  empty : ∀ (X : Cx) (pos : Pos), PE X (.Dict [] [] pos) (fun _ H Q => ∀ p, H p = none → Q (.ref p) (upd H p (ho [])))
  get : ∀ {K : PySem.W.Frag} {F H : Hp} {a : Addr} {v : V} {x : κ} {kvs : List (κ × V)}, Same F H → H a = some (ho kvs) → i.rp K F v x → DGet H a v (valV kvs x)
  put : ∀ {K : PySem.W.Frag} {F H : Hp} {a : Addr} {y : V} {x : κ} {kvs : List (κ × V)} {v : V}, Same F H → H a = some (ho kvs) → i.rp K F y x → kvs.length < sizeLine → DPut H a y v (upd H a (ho (putK kvs x v)))
  isD : ∀ {H : Hp} {a : Addr} {kvs : List (κ × V)}, H a = some (ho kvs) → IsD H a
noncomputable def hoK {κ : Type} (e : κ → Key) (kvs : List (κ × V)) : HO := .dK (kvs.map fun p => (e p.1, p.2))
noncomputable def hoT {κ : Type} (e : κ → List Key) (kvs : List (κ × V)) : HO := .dT (kvs.map fun p => (e p.1, p.2))
noncomputable def DKey.ofK {κ : Type} [i : Rep κ] [DecidableEq κ] (e : κ → Key) (inj : ∀ x y, e x = e y → x = y) (h : ∀ {K F v x}, i.rp K F v x → v = kV (e x)) : DKey κ :=
  ⟨hoK e, fun X pos => pe_dnewK, fun {K F H a v x kvs} s ha r => by
    rw [h r, ← valV_inj inj x kvs]; exact DGet.k ha, fun {K F H a y x kvs v} s ha r hz => by
    rw [h r]
    unfold hoK
    rw [← putK_inj inj]
    exact DPut.k ha (by rw [List.length_map]; exact hz), fun ha => .inl ⟨_, .inl ha⟩⟩
noncomputable def DKey.ofT {κ : Type} [i : Rep κ] [DecidableEq κ] (e : κ → List Key) (inj : ∀ x y, e x = e y → x = y) (h : ∀ {K F v x}, i.rp K F v x → ∃ b, v = .ref b ∧ F b = some (.tup ((e x).map kV))) : DKey κ :=
  ⟨hoT e, fun X pos => pe_dnewT, fun {K F H a v x kvs} s ha r => by
    obtain ⟨b, rfl, hb⟩ := h r
    rw [← valV_inj inj x kvs]; exact DGet.t ha (s _ _ hb), fun {K F H a y x kvs v} s ha r hz => by
    obtain ⟨b, rfl, hb⟩ := h r
    unfold hoT
    rw [← putK_inj inj]
    exact DPut.t ha (s _ _ hb) (by rw [List.length_map]; exact hz), fun ha => .inr ⟨_, .inl ha⟩⟩
theorem inr_sx (x y : Tx) (h : (Sum.inr (sx x) : Key) = Sum.inr (sx y)) : x = y := sx_inj (Sum.inr.inj h)
noncomputable instance dkTx : DKey Tx := .ofK (fun x => .inr (sx x)) inr_sx fun {_ _ v x} h => h
noncomputable instance dkInt : DKey Int := .ofK (fun x => .inl x) (fun _ _ h => Sum.inl.inj h) fun {_ _ v x} h => h
class KPart (α : Type) [i : Rep α] where
  en : α → Key
  inj : ∀ x y, en x = en y → x = y
  rp : ∀ {K F v x}, i.rp K F v x → v = kV (en x)
noncomputable instance : KPart Tx := ⟨fun x => .inr (sx x), inr_sx, fun {_ _ v x} h => h⟩
noncomputable instance : KPart Int := ⟨fun x => .inl x, fun _ _ h => Sum.inl.inj h, fun {_ _ v x} h => h⟩
noncomputable instance dkPair {α β : Type} [i : Rep α] [j : Rep β] [DecidableEq α] [DecidableEq β] [p : KPart α] [q : KPart β] : DKey (α × β) :=
  .ofT (fun x => [p.en x.1, q.en x.2]) (fun x y h => by
    obtain ⟨h1, h2⟩ := List.cons.inj h
    obtain ⟨h2, _⟩ := List.cons.inj h2
    exact Prod.ext (p.inj _ _ h1) (q.inj _ _ h2)) fun {K F v x} ⟨a, u, w, e, h, r1, r2⟩ => ⟨a, e, by rw [h, p.rp r1, q.rp r2]; rfl⟩
noncomputable instance dkTup {α : Type} [i : Rep α] [DecidableEq α] [p : KPart α] : DKey (Tup α) :=
  .ofT (fun x => x.l.map p.en) (fun x y h => by
    cases x; cases y
    have : ∀ l m : List α, l.map p.en = m.map p.en → l = m := by
      intro l
      induction l with
      | nil => intro m h; cases m with | nil => rfl | cons _ _ => cases h
      | cons a l ih =>
        intro m h
        cases m with
        | nil => cases h
        | cons b m =>
          obtain ⟨h1, h2⟩ := List.cons.inj h
          rw [p.inj _ _ h1, ih m h2]
    exact congrArg Tup.mk (this _ _ h)) fun {K F v x} ⟨a, vs, e, h, pr⟩ => ⟨a, e, by
      rw [h]
      have : ∀ {vs : List V} {l : List α}, Paired (fun u x => i.rp K F u x) vs l → vs = (l.map p.en).map kV := by
        intro vs l h
        induction h with
        | nil => rfl
        | cons r _ ih => rw [List.map_cons, List.map_cons, ← ih, p.rp r]
      rw [this pr]⟩
section
variable {κ α : Type} [ik : Rep κ] [DecidableEq κ] [dk : DKey κ] {i : Rep α}
noncomputable abbrev DRel (i : Rep α) (K : PySem.W.Frag) (F : Hp) (kvs : List (κ × V)) (l : List (κ × α)) : Prop := Paired (fun (p : κ × V) (q : κ × α) => p.1 = q.1 ∧ i.rp K F p.2 q.2) kvs l
theorem DRel.val {K : PySem.W.Frag} {F : Hp} {k : κ} : ∀ {kvs : List (κ × V)} {l : List (κ × α)}, DRel i K F kvs l → (look l k = none → valV kvs k = none) ∧ ∀ y, look l k = some y → ∃ v, valV kvs k = some v ∧ i.rp K F v y
  | _, _, .nil => ⟨fun _ => rfl, fun y h => by cases h⟩
  | _, _, .cons (a := p) (b := q) r t => by
    have ih := DRel.val (k := k) t
    by_cases e : p.1 = k
    · rw [look_pos (r.1.symm.trans e), valV_pos e]
      exact ⟨fun z => (nomatch z), fun y h => ⟨_, rfl, by cases Option.some.inj h; exact r.2⟩⟩
    · rw [look_neg fun z => e (r.1.trans z), valV_neg e]
      exact ih
theorem DRel.put {K : PySem.W.Frag} {F : Hp} {k : κ} {v : V} {y : α} {kvs : List (κ × V)} {l : List (κ × α)} (h : DRel i K F kvs l) (r : i.rp K F v y) : DRel i K F (putK kvs k v) (put l k y) := by
  have e1 : (kvs.any fun kv => decide (kv.1 = k)) = l.any fun p => decide (p.1 = k) := by
    clear r
    induction h with
    | nil => rfl
    | cons r _ ih => rw [List.any_cons, List.any_cons, ih, r.1]
  unfold putK Tw.put
  rw [e1]
  split
  · clear e1
    have go : ∀ {ks : List (κ × V)} {ls : List (κ × α)}, DRel i K F ks ls → DRel i K F (ks.map fun kv => if kv.1 = k then (kv.1, v) else kv) (ls.map fun p => if p.1 = k then (p.1, y) else p) := by
      intro ks ls h
      induction h with
      | nil => exact .nil
      | @cons p q _ _ r' _ ih =>
        refine .cons ?_ ih
        show ((if p.1 = k then (p.1, v) else p).1 = (if q.1 = k then (q.1, y) else q).1 ∧ i.rp K F (if p.1 = k then (p.1, v) else p).2 (if q.1 = k then (q.1, y) else q).2)
        by_cases z : p.1 = k
        · rw [if_pos z, if_pos (r'.1.symm.trans z)]; exact ⟨r'.1, r⟩
        · rw [if_neg z, if_neg fun z2 => z (r'.1.trans z2)]; exact r'
    exact go h
  · exact papp h (.cons ⟨rfl, r⟩ .nil)
noncomputable instance repDic {α : Type} [i : Rep α] : Rep (Dic κ α) := ⟨fun K F v x => ∃ a kvs, v = .ref a ∧ F a = some (dk.ho kvs) ∧ DRel i K F kvs x.l,
  fun s ⟨a, kvs, e, h, p⟩ => ⟨a, kvs, e, s _ _ h, Paired.mapP p fun _ _ q => ⟨q.1, i.mono s q.2⟩⟩⟩
variable {X : Cx} {Γ : List Slot} {pos p p2 : Pos} {e a b c : Expr} {es : List Expr} {E : SE} {rest : List Stmt}
end
section
variable {X : Cx} {Γ : List Slot} {α : Type} {i : Rep α} {pos p p2 : Pos} {e a b c : Expr} {es : List Expr} {E : SE} {rest : List Stmt}
class FlatV (α : Type) [i : Rep α] : Prop where
  fl : ∀ {K F v x}, i.rp K F v x → flatB v = true
  inj : ∀ {K F F' v w} {x : α}, i.rp K F v x → i.rp K F' w x → v = w
noncomputable instance : FlatV Tx := ⟨fun {_ _ v x} h => by obtain rfl : v = .str (sx x) := h; rfl, fun {_ _ _ v w x} h1 h2 => by obtain rfl : v = .str (sx x) := h1; obtain rfl : w = .str (sx x) := h2; rfl⟩
noncomputable instance : FlatV Int := ⟨fun {_ _ v x} h => by obtain rfl : v = .int x := h; rfl, fun {_ _ _ v w x} h1 h2 => by obtain rfl : v = .int x := h1; obtain rfl : w = .int x := h2; rfl⟩
end
end Tw
namespace Tw
open PySem PySem.Spec PyProof.Rows L2 TL
class HetT (α : Type) where
  els : α → List Slot
noncomputable instance (priority := low) repHetT {α : Type} [t : HetT α] : Rep α := ⟨fun K F v x => ∃ a vs, v = .ref a ∧ F a = some (.tup vs) ∧ HetOk K F vs (t.els x), fun s ⟨a, vs, e, h, r⟩ => ⟨a, vs, e, s _ _ h, r.mono s⟩⟩
section
variable {X : Cx} {Γ : List Slot} {α β γ δ : Type} {i : Rep α} {j : Rep β} {l : Rep γ} {pos p p2 : Pos} {e a b c : Expr} {es : List Expr} {E : SE} {rest body : List Stmt}
theorem exx_imp {P P' : Ret → Prop} {R R' : Exn → Prop} (h : EXX X Γ e P R) (f : ∀ r, P r → P' r) (g : ∀ y, R y → R' y) : EXX X Γ e P' R' := fun B F H σ Q L q z => h B F H σ Q L (fun r v F' H' hp => q r v F' H' (f r hp)) (fun y u d F' H' hy => z y u d F' H' (g y hy))
end
end Tw
namespace Tw
open PySem PySem.Spec PyProof.Rows L2 TL
theorem cnt_nodup (xs : List Str) : ∀ i, i ≤ xs.length → (SetS.cnt xs i = i ↔ (xs.take i).Nodup)
  | 0, _ => by simp [SetS.cnt]
  | i + 1, hi => by
    have ih := cnt_nodup xs i (by omega)
    have le := SetS.cnt_le xs i
    have e : xs.take (i + 1) = xs.take i ++ [xs.getD i Str.empty] := by
      rw [List.take_succ, List.getElem?_eq_getElem (by omega), List.getD_eq_getElem?_getD, List.getElem?_eq_getElem (by omega)]
      rfl
    rw [e, List.nodup_append]
    unfold SetS.cnt
    have hm : (xs.take i).any (· == xs.getD i Str.empty) = true ↔ xs.getD i Str.empty ∈ xs.take i := by
      rw [List.any_eq_true]
      exact ⟨fun ⟨z, h1, h2⟩ => (beq_iff_eq.mp h2) ▸ h1, fun h => ⟨_, h, by simp⟩⟩
    split
    · rename_i h
      refine ⟨fun z => by omega, fun ⟨_, _, z⟩ => ?_⟩
      exact absurd rfl (z _ (hm.mp h) _ (List.mem_singleton.mpr rfl))
    · rename_i h
      have h' := fun z => h (hm.mpr z)
      rw [Nat.add_right_cancel_iff, ih]
      refine ⟨fun z => ⟨z, by simp, fun a ha b hb q => ?_⟩, fun z => z.1⟩
      rw [List.mem_singleton.mp hb] at q
      exact h' (q ▸ ha)
noncomputable def unlike (x : Tx) : Nat := SetS.cnt (PyProof.Rows.signs (sx x)) (PyProof.Rows.signs (sx x)).length
theorem signs_sx (x : Tx) : PyProof.Rows.signs (sx x) = x.map fun c => ⟨#[c]⟩ := by
  unfold PyProof.Rows.signs sx
  simp
theorem unlike_nodup (x : Tx) : unlike x = x.length ↔ x.Nodup := by
  have h := cnt_nodup (PyProof.Rows.signs (sx x)) (PyProof.Rows.signs (sx x)).length (Nat.le_refl _)
  have l : (PyProof.Rows.signs (sx x)).length = x.length := by rw [signs_sx, List.length_map]
  unfold unlike
  rw [List.take_length] at h
  rw [l] at h ⊢
  rw [h, signs_sx]
  have inj : ∀ a b : Nat, (⟨#[a]⟩ : Str) = ⟨#[b]⟩ → a = b := fun a b e => by simpa using e
  constructor
  · intro q
    exact (List.pairwise_map.mp q).imp fun {a b} n e => n (by rw [e])
  · intro q
    exact List.pairwise_map.mpr (q.imp fun {a b} n e => n (inj a b e))
section
variable {X : Cx} {Γ : List Slot} {α β γ : Type} {i : Rep α} {j : Rep β} {pos p p2 : Pos} {e a b c : Expr} {es : List Expr} {E : SE} {rest body : List Stmt}
theorem ev_lenSet {x : Tx} {q0 : Pos} (m1 : X.mg "len" = none) (m2 : X.mg "set" = none) (h : EV X Γ e x) (hz : x.length < 4000) (g1 : autoParam (Gl X "len") aRfl) (g2 : autoParam (Gl X "set") aRfl) (hc : autoParam (X.calm = true) aRfl) (hs : autoParam (starEach [e] X.env = (false, eval e X.env) :: starEach [] X.env) aStar) :
    EV X Γ (.Call (.Name "len" p) [.Call (.Name "set" p2) [e] [] q0] [] pos) ((unlike x : Nat) : Int) := fun B F H σ Q L q =>
  WE.of (pe_lenSetS hc g1 m1 g2 m2 peW hs) (h B F H σ _ L fun v F1 H1 e1 r1 => by
    obtain rfl : v = .str (sx x) := r1
    exact ⟨sx x, rfl, by rw [sx_len]; unfold scanBound; omega, q _ F1 H1 e1 rfl⟩)
theorem cnt_count (c : Nat) : ∀ x : Tx, PyProof.Rows.cnt c x = (x.count c : Int)
  | [] => rfl
  | n :: r => by
    rw [PyProof.Rows.cnt_cons, cnt_count c r, List.count_cons]
    by_cases h : n = c
    · simp [h]; omega
    · simp [h]
theorem ev_count1 {o : Expr} {x : Tx} {y : Nat} {apos : Pos} (ho : EV X Γ o x) (he : EV X Γ e ([y] : Tx)) (hbase : autoParam (attributeBase o "count" X.env (eval o X.env) = eval o X.env) aRfl)
    (hfew : autoParam (((backTo pos (starEach [e] X.env)).all (fun x => !x.1) && (backToKw pos (keywordEach [] X.env)).all (fun x => x.1.isSome) && decide ([e].length + ([] : List Keyword).length + (if ([] : List Keyword).isEmpty then 0 else 1) < 30)) = true) aRfl)
    (hline : autoParam ((apos.endLine == pos.line) = true) aRfl) (hs : autoParam (starEach [e] X.env = (false, eval e X.env) :: starEach [] X.env) aStar) (hplain : autoParam ((backTo pos (starEach [] X.env)).any (·.1) = false) aRfl) :
    EV X Γ (.Call (.Attribute o "count" apos) [e] [] pos) ((x.count y : Nat) : Int) := fun B F H σ Q L q =>
  WE.of (pe_bm PySem.F.plainAttrs_str PySem.F.slot_str_count PySem.F.type_str_count mt_count peW (pa_cons peW pa_nil hs) hbase hfew hline hs hplain) (ho B F H σ _ L fun v F1 H1 e1 r1 => by
    obtain rfl : v = .str (sx x) := r1
    refine ⟨rfl, he B F1 H1 σ _ (L.step e1) fun u F2 H2 e2 r2 => ?_⟩
    obtain rfl : u = .str (sx [y]) := r2
    refine ⟨sx x, sx [y], rfl, rfl, ?_⟩
    have e3 : PySem.Txt.count (sx x) (sx [y]) = (x.count y : Int) := (PyProof.Rows.count_cnt (sx x) y).trans (by rw [← cnt_count]; rfl)
    rw [e3]
    exact q _ F2 H2 (e1.trans e2) rfl)
theorem st_extend (k : Nat) {n : Str} {ad : Addr} {xs ys : List α} {apos cpos : Pos} (he : EN X Γ e ys) (hr : ST X rest (Γ.set k (.lst i ad (xs ++ ys))) E) (hz : xs.length + ys.length ≤ sizeLine) (hg : autoParam (Γ[k]? = some (.lst i ad xs)) aRfl) (hN : autoParam (X.N[k]? = some n) aRfl)
    (hv : autoParam (Vis X.env.scope n) aVis) (hd : autoParam ((n == ("__debug__" : Str)) = false) aDec) (hcd : autoParam ((n == ("__classdict__" : Str)) = false) aDec)
    (hbase : autoParam (attributeBase (.Name n p) "extend" X.env (eval (.Name n p) X.env) = eval (.Name n p) X.env) aRfl)
    (hfew : autoParam (((backTo cpos (starEach [e] X.env)).all (fun x => !x.1) && (backToKw cpos (keywordEach [] X.env)).all (fun x => x.1.isSome) && decide ([e].length + ([] : List Keyword).length + (if ([] : List Keyword).isEmpty then 0 else 1) < 30)) = true) aRfl)
    (hline : autoParam ((apos.endLine == cpos.line) = true) aRfl) (hs : autoParam (starEach [e] X.env = (false, eval e X.env) :: starEach [] X.env) aStar) (hplain : autoParam ((backTo cpos (starEach [] X.env)).any (·.1) = false) aRfl)
    (hsw : autoParam (swapsWith (.Call (.Attribute (.Name n p) "extend" apos) [e] [] cpos) none pos.line X.env = pure false) aRfl) :
    ST X (.Expr (.Call (.Attribute (.Name n p) "extend" apos) [e] [] cpos) pos :: rest) Γ E := fun B F H σ D L ed => by
  obtain ⟨vs, ea, fa, ba, ha, pr⟩ := slot_lst L hg
  refine WP.cons (ps_expr (pe_bm PySem.F.plainAttrs_list PySem.F.slot_list_extend PySem.F.type_list_extend mt_extend (pe_var hN hv hd hcd) (pa_cons peW pa_nil hs) hbase hfew hline hs hplain) hsw) ?_
  refine ⟨_, ea, .inl ⟨rfl, _, .inl (.inl ha)⟩, he B F H σ _ L fun ad2 vs2 F1 H1 e1 h2 f2 h2' pr2 => ?_⟩
  have L1 := L.step e1
  obtain ⟨vs1, _, _, _, ha1, pr1⟩ := slot_lst L1 hg
  refine ⟨ad, ad2, vs1, vs2, rfl, rfl, ha1, h2', by rw [Paired.length pr1, Paired.length pr2]; exact hz, ?_⟩
  exact hr B F1 _ σ D (L1.updL hg (papp pr1 pr2)) (ed.weak e1.ff)
theorem pints {K : PySem.W.Frag} {F : Hp} : ∀ ys : List Int, Paired (fun u x => repInt.rp K F u x) (ys.map V.int) ys
  | [] => .nil
  | y :: ys => .cons rfl (pints ys)
theorem en_sliceScr {xs : Scr} {lo hi : Option Expr} {o1 o2 : Option Int} (ha : EV X Γ a xs) (hl : EO X Γ lo o1) (hh : EO X Γ hi o2) : EN X Γ (.Subscript a (.Slice lo hi none p2) pos) (cutL xs.l o1 o2) := fun B F H σ Q L q =>
  WE.of (pe_slice sl_list peW (poW (Γ := Γ)) (poW (Γ := Γ))) (ha B F H σ _ L fun v F1 H1 e1 r1 => eo_run hl (L.step e1) fun F2 H2 e2 => eo_run hh (L.step (e1.trans e2)) fun F3 H3 e3 => by
    obtain ⟨ad, rfl, h1⟩ := r1
    have e123 := (e1.trans e2).trans e3
    have s3 := (L.step e123).same
    refine ⟨ad, xs.l.map V.int, rfl, s3.seq ((e2.trans e3).ff.seq h1), fun p hp => ?_⟩
    refine q p _ F3 _ (e123.trans (Ext.apart s3 hp)) (e123.hs.free hp) (s3.free hp) upd_same ?_
    have ec : cutV (xs.l.map V.int) o1 o2 = (cutL xs.l o1 o2).map V.int := by
      unfold cutV cutL
      rw [List.length_map, List.map_take, List.map_drop]
    rw [ec]
    exact pints _)
end
end Tw
namespace Tw
open PySem PySem.Spec PyProof.Rows L2 TL
end Tw
namespace Tw
open PySem PySem.Spec PyProof.Rows L2 TL
section
variable {X : Cx} {Γ : List Slot} {α β γ : Type} {i : Rep α} {j : Rep β} {pos p p2 : Pos} {e a b c : Expr} {es : List Expr} {E : SE} {rest body : List Stmt}
theorem o_inTS {x : Tx} {ys : Tup Tx} : OB X (compareOp .In) x ys (decide (x ∈ ys.l)) := fun F H v u Q s r1 r2 q pins s' σ va vb I rv1 rv2 => by
  obtain rfl : v = .str (sx x) := r1
  obtain ⟨ad, vs, rfl, h1, pr⟩ := r2
  obtain rfl := pd_strs pr
  refine op_in_seq pins s' σ H _ _ va vb Q I rv1 rv2 ⟨ad, _, rfl, .inr (st_of s h1), rfl, ?_, ?_⟩
  · rw [List.all_map]; exact List.all_eq_true.mpr fun _ _ => rfl
  · rw [if_neg (by decide), inV_strs]
    exact q _ F H (Ext.refl s) rfl
end
end Tw
namespace Tw
open PySem PySem.Spec PyProof.Rows L2 TL
set_option genInjectivity true in
inductive Dy where
  | i (n : Int)
  | s (x : Tx)
  | n
  | t (xs : List Dy)
  | l (xs : List Dy)
mutual
noncomputable def rpD (F : Hp) : Dy → V → Prop
  | .i n, v => v = .int n
  | .s x, v => v = .str (sx x)
  | .n, v => v = .non
  | .t xs, v => ∃ a vs, v = .ref a ∧ F a = some (.tup vs) ∧ rpDs F xs vs
  | .l xs, v => ∃ a vs, v = .ref a ∧ F a = some (.lst vs) ∧ rpDs F xs vs
noncomputable def rpDs (F : Hp) : List Dy → List V → Prop
  | [], vs => vs = []
  | x :: xs, vs => ∃ v ws, vs = v :: ws ∧ rpD F x v ∧ rpDs F xs ws
end
mutual
theorem rpD_mono {F F' : Hp} (h : Same F F') : ∀ (x : Dy) (v : V), rpD F x v → rpD F' x v
  | .i n, v, r => by rw [rpD] at r ⊢; exact r
  | .s x, v, r => by rw [rpD] at r ⊢; exact r
  | .n, v, r => by rw [rpD] at r ⊢; exact r
  | .t xs, v, r => by
    rw [rpD] at r ⊢
    obtain ⟨a, vs, e, h1, h2⟩ := r
    exact ⟨a, vs, e, h _ _ h1, rpDs_mono h xs vs h2⟩
  | .l xs, v, r => by
    rw [rpD] at r ⊢
    obtain ⟨a, vs, e, h1, h2⟩ := r
    exact ⟨a, vs, e, h _ _ h1, rpDs_mono h xs vs h2⟩
theorem rpDs_mono {F F' : Hp} (h : Same F F') : ∀ (xs : List Dy) (vs : List V), rpDs F xs vs → rpDs F' xs vs
  | [], vs, r => by rw [rpDs] at r ⊢; exact r
  | x :: xs, vs, r => by
    rw [rpDs] at r ⊢
    obtain ⟨v, ws, e, h1, h2⟩ := r
    exact ⟨v, ws, e, rpD_mono h x v h1, rpDs_mono h xs ws h2⟩
end
noncomputable instance repDy : Rep Dy := ⟨fun _ F v x => rpD F x v, fun s h => rpD_mono s _ _ h⟩
theorem rpDs_iff {α : Type} [i : Rep α] {K : PySem.W.Frag} {F : Hp} {d : α → Dy} (hd : ∀ v x, i.rp K F v x ↔ rpD F (d x) v) : ∀ (xs : List α) (vs : List V), Paired (fun u x => i.rp K F u x) vs xs ↔ rpDs F (xs.map d) vs
  | [], vs => by
    rw [List.map_nil, rpDs]
    exact ⟨fun h => by cases h; rfl, fun h => by subst h; exact .nil⟩
  | x :: xs, vs => by
    rw [List.map_cons, rpDs]
    constructor
    · intro h
      cases h with
      | cons r t => exact ⟨_, _, rfl, (hd _ _).mp r, (rpDs_iff hd xs _).mp t⟩
    · rintro ⟨v, ws, rfl, r, t⟩
      exact .cons ((hd _ _).mpr r) ((rpDs_iff hd xs _).mpr t)
class IsD (α : Type) [i : Rep α] where
  d : α → Dy
  iff : ∀ {K : PySem.W.Frag} {F : Hp} {v : V} {x : α}, i.rp K F v x ↔ rpD F (d x) v
noncomputable instance isdDy : IsD Dy := ⟨fun x => x, Iff.rfl⟩
noncomputable instance isdInt : IsD Int := ⟨.i, by intro K F v x; rw [rpD]; exact Iff.rfl⟩
noncomputable instance isdTx : IsD (List Nat) := ⟨.s, by intro K F v x; rw [rpD]; exact Iff.rfl⟩
noncomputable instance isdUnit : IsD Unit := ⟨fun _ => .n, by intro K F v x; rw [rpD]; exact Iff.rfl⟩
noncomputable instance isdList {α : Type} [i : Rep α] [h : IsD α] : IsD (List α) := ⟨fun xs => .l (xs.map h.d), by
  intro K F v xs
  rw [rpD]
  constructor
  · rintro ⟨a, vs, e, h1, p⟩
    exact ⟨a, vs, e, h1, (rpDs_iff (K := K) (fun v x => h.iff) xs vs).mp p⟩
  · rintro ⟨a, vs, e, h1, p⟩
    exact ⟨a, vs, e, h1, (rpDs_iff (K := K) (fun v x => h.iff) xs vs).mpr p⟩⟩
noncomputable instance isdTup {α : Type} [i : Rep α] [h : IsD α] : IsD (Tup α) := ⟨fun xs => .t (xs.l.map h.d), by
  intro K F v xs
  rw [rpD]
  constructor
  · rintro ⟨a, vs, e, h1, p⟩
    exact ⟨a, vs, e, h1, (rpDs_iff (K := K) (fun v x => h.iff) xs.l vs).mp p⟩
  · rintro ⟨a, vs, e, h1, p⟩
    exact ⟨a, vs, e, h1, (rpDs_iff (K := K) (fun v x => h.iff) xs.l vs).mpr p⟩⟩
noncomputable instance isdPair {α β : Type} [i : Rep α] [j : Rep β] [h : IsD α] [h2 : IsD β] : IsD (α × β) := ⟨fun x => .t [h.d x.1, h2.d x.2], by
  intro K F v x
  rw [rpD]
  constructor
  · rintro ⟨a, u, w, e, h1, p, q⟩
    refine ⟨a, _, e, h1, ?_⟩
    rw [rpDs]
    refine ⟨u, _, rfl, h.iff.mp p, ?_⟩
    rw [rpDs]
    exact ⟨w, _, rfl, h2.iff.mp q, by rw [rpDs]⟩
  · rintro ⟨a, vs, e, h1, p⟩
    rw [rpDs] at p
    obtain ⟨u, ws, rfl, p, q⟩ := p
    rw [rpDs] at q
    obtain ⟨w, ws, rfl, q, r⟩ := q
    rw [rpDs] at r
    subst r
    exact ⟨a, u, w, e, h1, h.iff.mpr p, h2.iff.mpr q⟩⟩
section
variable {X : Cx} {Γ : List Slot} {α β γ : Type} {i : Rep α} {j : Rep β} {l : Rep γ} {pos p p2 : Pos} {e a b c elt tg it : Expr} {es : List Expr} {E : SE} {rest body : List Stmt}
theorem cutL_from {A : Type} {xs : List A} (k : Nat) : cutL xs (some (k : Int)) none = xs.drop k := by
  unfold cutL
  rw [HT.sIx_nat]
  show (xs.drop (min k xs.length)).take (xs.length - min k xs.length) = _
  rw [List.take_of_length_le (by rw [List.length_drop]; exact Nat.le_refl _)]
  by_cases h : k ≤ xs.length
  · rw [Nat.min_eq_left h]
  · rw [Nat.min_eq_right (by omega), List.drop_length, List.drop_eq_nil_of_le (by omega)]
theorem cutL_to {A : Type} {xs : List A} (k : Nat) : cutL xs none (some (k : Int)) = xs.take k := by
  unfold cutL
  rw [HT.sIx_nat]
  show (xs.drop 0).take (min k xs.length - 0) = _
  rw [List.drop_zero, Nat.sub_zero]
  by_cases h : k ≤ xs.length
  · rw [Nat.min_eq_left h]
  · rw [Nat.min_eq_right (by omega), List.take_length, List.take_of_length_le (by omega)]
theorem eg_pop (k : Nat) {n : Str} {ad : Addr} {xs : List α} {x : α} {apos cpos : Pos} (hx : xs.getLast? = some x) (hg : autoParam (Γ[k]? = some (.lst i ad xs)) aRfl) (hN : autoParam (X.N[k]? = some n) aRfl)
    (hv : autoParam (Vis X.env.scope n) aVis) (hd : autoParam ((n == ("__debug__" : Str)) = false) aDec) (hcd : autoParam ((n == ("__classdict__" : Str)) = false) aDec)
    (hbase : autoParam (attributeBase (.Name n p) "pop" X.env (eval (.Name n p) X.env) = eval (.Name n p) X.env) aRfl) (hline : autoParam ((apos.endLine == cpos.line) = true) aRfl) :
    EG X Γ (.Call (.Attribute (.Name n p) "pop" apos) [] [] cpos) (fun r Γ' => r = .val i x ∧ Γ' = Γ.set k (.lst i ad xs.dropLast)) (fun _ _ => False) := fun B F H σ Q L q _ => by
  obtain ⟨vs, ea, fa, ba, ha, pr⟩ := slot_lst L hg
  refine WE.of (pe_bm0 PySem.F.plainAttrs_list PySem.F.slot_list_pop PySem.F.type_list_pop mt_pop (pe_var hN hv hd hcd) hbase hline) ?_
  have hne : xs ≠ [] := fun z => by subst z; cases hx
  have hlen : vs.length = xs.length := Paired.length pr
  have hx' : xs[vs.length - 1]? = some x := by rw [hlen, ← List.getLast?_eq_getElem?]; exact hx
  obtain ⟨v, hv1, r⟩ := pgetL pr hx'
  have hdl : Paired (fun u x => i.rp X.K F u x) vs.dropLast xs.dropLast := by
    rw [List.dropLast_eq_take, List.dropLast_eq_take, hlen]
    exact ptake _ pr
  refine ⟨_, ea, .inl ⟨rfl, _, .inl (.inl ha)⟩, ad, vs, v, rfl, rfl, ha, hv1, ?_⟩
  exact q (.val i x) v F _ _ ⟨rfl, rfl⟩ (Same.refl F) (L.updL hg hdl) r
theorem ED.same {B : Bs} {F0 F1 : Hp} {D : Ends} (ed : ED X B F0 E D) (s : Same F0 F1) : ED X B F1 E D := ed.weak s
end
end Tw
namespace Tw
open PySem PySem.Spec PyProof.Rows L2 TL
end Tw
namespace Tw
open PySem PySem.Spec PyProof.Rows L2 TL
end Tw
namespace Tw
open PySem PySem.Spec PyProof.Rows L2 TL
section
variable {X : Cx} {Γ : List Slot} {α β γ : Type} {i : Rep α} {j : Rep β} {pos p p2 pos2 : Pos} {e a b c elt tg it : Expr} {es : List Expr} {E : SE} {rest body : List Stmt}
theorem WA.no {es : List Expr} {σ : L2.St} {H : Hp} {Q : List V → Hp → Prop} (h : WA X es σ H (fun _ _ => False)) : WA X es σ H Q := ⟨fun pos pins s I => wpAny_mono (h.go pos pins s I) (fun us s1 ⟨vs, H1, I1, r1, hf⟩ => hf.elim) fun _ _ z => z⟩
end
end Tw
namespace Tw
open PySem PySem.Spec PyProof.Rows L2 TL
mutual
noncomputable def Dy.py : Dy → PyData
  | .i z => .int z
  | .s x => .str (sx x)
  | .n => .none
  | .t xs => .tuple (Dy.pys xs)
  | .l xs => .list (Dy.pys xs)
noncomputable def Dy.pys : List Dy → List PyData
  | [] => []
  | x :: xs => x.py :: Dy.pys xs
end
mutual
noncomputable def Dy.okc : Dy → Prop
  | .i _ => True
  | .s x => TxOk x
  | .n => True
  | .t xs => Dy.okcs xs
  | .l xs => Dy.okcs xs
noncomputable def Dy.okcs : List Dy → Prop
  | [] => True
  | x :: xs => x.okc ∧ Dy.okcs xs
end
mutual
noncomputable def Dy.dep : Dy → Nat
  | .i _ => 0
  | .s _ => 0
  | .n => 0
  | .t xs => Dy.deps xs + 1
  | .l xs => Dy.deps xs + 1
noncomputable def Dy.deps : List Dy → Nat
  | [] => 0
  | x :: xs => max x.dep (Dy.deps xs)
end
mutual
theorem Dy.py_dep : ∀ x : Dy, x.py.depth = x.dep
  | .i z => by rw [Dy.py, Dy.dep, PyData.depth]
  | .s x => by rw [Dy.py, Dy.dep, PyData.depth]
  | .n => by rw [Dy.py, Dy.dep, PyData.depth]
  | .t xs => by rw [Dy.py, Dy.dep, PyData.depth, Dy.pys_dep xs]
  | .l xs => by rw [Dy.py, Dy.dep, PyData.depth, Dy.pys_dep xs]
theorem Dy.pys_dep : ∀ xs : List Dy, PyData.depthAll (Dy.pys xs) = Dy.deps xs
  | [] => by rw [Dy.pys, Dy.deps, PyData.depthAll]
  | x :: xs => by rw [Dy.pys, Dy.deps, PyData.depthAll, Dy.py_dep x, Dy.pys_dep xs]
end
mutual
theorem Dy.py_lay : ∀ x : Dy, x.okc → x.py.canLay0 = true
  | .i z, _ => by rw [Dy.py, PyData.canLay0]
  | .s x, h => by
    rw [Dy.py]
    rw [Dy.okc] at h
    exact (instDatTx).lay h
  | .n, _ => by rw [Dy.py, PyData.canLay0]
  | .t xs, h => by rw [Dy.py, PyData.canLay0]; rw [Dy.okc] at h; exact Dy.pys_lay xs h
  | .l xs, h => by rw [Dy.py, PyData.canLay0]; rw [Dy.okc] at h; exact Dy.pys_lay xs h
theorem Dy.pys_lay : ∀ xs : List Dy, Dy.okcs xs → PyData.canLayAll0 (Dy.pys xs) = true
  | [], _ => by rw [Dy.pys, PyData.canLayAll0]
  | x :: xs, h => by
    rw [Dy.okcs] at h
    rw [Dy.pys, PyData.canLayAll0, Dy.py_lay x h.1, Dy.pys_lay xs h.2]
    rfl
end
structure Dy.Shp (x : Dy) : Prop where
  ok : x.okc
  dp : x.dep ≤ 64
theorem Dy.Shp.shaped {x : Dy} (h : x.Shp) : SeqAt.shaped x.py = true := by
  unfold SeqAt.shaped
  rw [Dy.py_lay x h.ok, Dy.py_dep, decide_eq_true h.dp]
  rfl
end Tw
namespace Tw
open PySem PySem.Spec PyProof.Rows L2 TL
end Tw
namespace Tw
open PySem PySem.Spec PyProof.Rows L2 TL
section
variable {X : Cx} {Γ Γ' : List Slot} {α β γ : Type} {i : Rep α} {j : Rep β} {l : Rep γ} {pos p p2 p3 pos2 : Pos} {e a b c elt tg it : Expr} {es : List Expr} {E : SE} {rest body : List Stmt}
theorem st_nx {sts : List Stmt} {P Q : List Slot → Prop} (h : ST X sts Γ { E with nx := P }) (hPQ : ∀ Γ', P Γ' → Q Γ') : ST X sts Γ { E with nx := Q } := fun B F H σ D L ed =>
  h B F H σ D L ⟨fun F5 H5 σ5 Γ5 s5 hp L5 => ed.nx F5 H5 σ5 Γ5 s5 (hPQ _ hp) L5, ed.rt, ed.bk, ed.ct, ed.ex⟩
theorem st_ifJ {ι : Type} {k : Bool} {A C : List Stmt} (S : ι → List Slot) (I : ι → Prop) (hc : ET X Γ c k) (hA : k = true → ST X A Γ { E with nx := fun Γ' => ∃ y, Le Γ' (S y) ∧ I y }) (hC : k = false → ST X C Γ { E with nx := fun Γ' => ∃ y, Le Γ' (S y) ∧ I y }) (hr : ∀ y, I y → ST X rest (S y) E) : ST X (.If c A C pos :: rest) Γ E :=
  st_if hc (fun hk => st_nx (hA hk) fun Γ' ⟨y, le, hI⟩ => st_le le (hr y hI)) (fun hk => st_nx (hC hk) fun Γ' ⟨y, le, hI⟩ => st_le le (hr y hI))
end
end Tw
namespace L2
open PySem PySem.Spec PySem.Calls PyProof.Rows
end L2
namespace Tw
open PySem PySem.Spec PyProof.Rows L2 TL
end Tw
namespace Tw
open PySem PySem.Spec PyProof.Rows L2 TL
section
variable {X : Cx} {Γ Γ' : List Slot} {α β γ : Type} {i : Rep α} {j : Rep β} {l : Rep γ} {pos p p2 p3 pos2 : Pos} {e a b c elt tg it : Expr} {es : List Expr} {E : SE} {rest body : List Stmt}
theorem prep {R : V → α → Prop} {vs : List V} {xs : List α} (h : Paired R vs xs) : ∀ n : Nat, Paired R (List.replicate n vs).flatten (List.replicate n xs).flatten
  | 0 => .nil
  | n + 1 => by
    rw [List.replicate_succ, List.replicate_succ, List.flatten_cons, List.flatten_cons]
    exact papp h (prep h n)
theorem en_rep {xs : List α} {n : Int} (ha : EN X Γ a xs) (hb : EV X Γ b n) (h1 : -(2 ^ 63) ≤ n) (h2 : n < 2 ^ 63) (hz : xs.length * n.toNat ≤ sizeLine) : EN X Γ (.BinOp a .Mult b pos) (List.replicate n.toNat xs).flatten := fun B F H σ Q L q =>
  WE.of (pe_op op_rep peW peW) (ha B F H σ _ L fun ad vs F1 H1 e1 ha0 fa h1' pr => hb B F1 H1 σ _ (L.step e1) fun u F2 H2 e2 r2 => by
    obtain rfl : u = .int n := r2
    refine ⟨ad, n, vs, rfl, rfl, e2.hs _ _ h1', h1, h2, by rw [Paired.length pr]; exact hz, fun p hp => ?_⟩
    have e12 := e1.trans e2
    have s2 := (L.step e12).same
    exact q p _ F2 _ (e12.trans (Ext.apart s2 hp)) (e12.hs.free hp) (s2.free hp) upd_same (prep (Paired.mapP pr fun _ _ z => i.mono e2.ff z) _))
end
end Tw
universe u
namespace Tw
open PySem PySem.Spec PyProof.Rows L2 TL
end Tw
namespace Tw
open PySem PySem.Spec PyProof.Rows L2 TL
end Tw
namespace Tw
open PySem PySem.Spec PyProof.Rows L2 TL
end Tw
namespace Tw
open PySem PySem.Spec PyProof.Rows L2 TL
end Tw
namespace Tw
open PySem PySem.Spec PyProof.Rows L2 TL
structure Key4 where
  n : Tx
  r : Int
  c : Int
  k : Int
deriving DecidableEq
noncomputable def Key4.ks (x : Key4) : List Key := [.inr (sx x.n), .inl x.r, .inl x.c, .inl x.k]
theorem Key4.inj : ∀ x y : Key4, x.ks = y.ks → x = y := fun x y h => by
  obtain ⟨n, r, c, k⟩ := x
  obtain ⟨n', r', c', k'⟩ := y
  simp only [Key4.ks, List.cons.injEq, and_true] at h
  obtain ⟨h1, h2, h3, h4⟩ := h
  rw [sx_inj (Sum.inr.inj h1), Sum.inl.inj h2, Sum.inl.inj h3, Sum.inl.inj h4]
noncomputable instance repKey4 : Rep Key4 := ⟨fun _ F v x => ∃ b, v = .ref b ∧ F b = some (.tup (x.ks.map kV)), fun s ⟨b, e, h⟩ => ⟨b, e, s _ _ h⟩⟩
noncomputable instance dkKey4 : DKey Key4 := .ofT Key4.ks Key4.inj fun h => h
end Tw
namespace Tw
open PySem PySem.Spec PyProof.Rows L2 TL
end Tw
namespace Tw
open PySem PySem.Spec PyProof.Rows L2 TL
end Tw
namespace Tw
open PySem PySem.Spec PyProof.Rows L2 TL
end Tw
namespace Tw
open PySem PySem.Spec PyProof.Rows L2 TL
end Tw
namespace Tw
open PySem PySem.Spec PyProof.Rows L2 TL
end Tw
namespace Tw
open PySem PySem.Spec PyProof.Rows L2 TL
end Tw
namespace L2
open PySem PySem.Spec PyProof.Rows PySem.W PySem.Calls PyProof.V
end L2
namespace L2
open PySem PySem.Spec PyProof.Rows PySem.W PySem.Calls
end L2
namespace L2
open PySem PySem.Spec PyProof.Rows PySem.W PySem.Calls
end L2
namespace L2
open PySem PySem.Spec PyProof.Rows PySem.W PySem.Calls
theorem sqL_mono {K : PySem.W.Frag} {H H' : Hp} {a : Addr} {xs : List V} (s : ∀ b o, H b = some o → H' b = some o) (h : SqL K H a xs) : SqL K H' a xs := by
  unfold SqL at h ⊢
  rcases h with h | h
  · exact .inl (h.imp (s _ _) fun ⟨o, e⟩ => ⟨o, s _ _ e⟩)
  · exact .inr h
theorem sqT_mono {K : PySem.W.Frag} {H H' : Hp} {a : Addr} {xs : List V} (s : ∀ b o, H b = some o → H' b = some o) (h : SqT K H a xs) : SqT K H' a xs := by
  unfold SqT at h ⊢
  rcases h with h | h
  · exact .inl (h.imp (s _ _) fun ⟨o, e⟩ => ⟨o, s _ _ e⟩)
  · exact .inr h
mutual
theorem dp_mono {K : PySem.W.Frag} {H H' : Hp} (s : ∀ b o, H b = some o → H' b = some o) : ∀ {v : V} {d : PyData}, Dp K H v d → Dp K H' v d
  | _, _, .int z => .int z
  | _, _, .str z => .str z
  | _, _, .bl z => .bl z
  | _, _, .non => .non
  | _, _, .lst h r => .lst (sqL_mono s h) (dp_monos s r)
  | _, _, .tup h r => .tup (sqT_mono s h) (dp_monos s r)
theorem dp_monos {K : PySem.W.Frag} {H H' : Hp} (s : ∀ b o, H b = some o → H' b = some o) : ∀ {vs : List V} {ds : List PyData}, DpAll K H vs ds → DpAll K H' vs ds
  | _, _, .nil => .nil
  | _, _, .cons h r => .cons (dp_mono s h) (dp_monos s r)
end
end L2
namespace Tw
open PySem PySem.Spec PyProof.Rows L2 TL
end Tw
namespace Tw
open PySem PySem.Spec PyProof.Rows L2 TL
end Tw
namespace L2
open PySem PySem.Spec PyProof.Rows PySem.W PySem.Calls
end L2
namespace Tw
open PySem PySem.Spec PyProof.Rows L2 TL
end Tw
namespace Tw
open PySem PySem.Spec PyProof.Rows L2 TL
end Tw
namespace Tw
open PySem PySem.Spec PyProof.Rows L2 TL
end Tw
namespace Tw
open PySem PySem.Spec PyProof.Rows L2 TL
end Tw
namespace Tw
open PySem PySem.Spec PyProof.Rows L2 TL
end Tw
namespace Tw
open PySem PySem.Spec PyProof.Rows L2 TL
structure DfD (K : PySem.W.Frag) (mg : Str → Option Value) (n : Str) (st : Stmt) (ps : List Str) : Prop where
  ex : ∃ f fd, FunD K n n (defArgs st) (defBody st) (defScope st) [V.non] [] f fd ∧ Binds K fd ps [] ∧ Binds K fd ps [Value.none] ∧ mg n = some (.ref f)
structure HasD (P : Program) (w : World) (K : PySem.W.Frag) (mg : Str → Option Value) (base : Heap) (k : Nat) (n : Str) (ps : List Str) (S : Spec) : Prop where
  ex : ∃ f fd, mg n = some (.ref f) ∧ PySem.W.keepIn K (.ref f) = true ∧ Binds K fd ps [] ∧ Binds K fd ps [Value.none] ∧ FnOk P w K mg base (CXm P w K) k f fd ps (spOf K S)
section
variable {P : Program} {w : World} {K : PySem.W.Frag} {mg : Str → Option Value} {base : Heap}
theorem HasD.has {k : Nat} {n : Str} {ps : List Str} {S : Spec} (h : HasD P w K mg base k n ps S) : Has P w K mg base k n ps S := by
  obtain ⟨f, fd, h1, h2, h3, h4, h5⟩ := h.ex
  exact ⟨f, fd, h1, h2, h3, h5⟩
theorem HasD.of {n : Str} {st : Stmt} {N ps : List Str} {k : Nat} {S : Spec} (D : DfD K mg n st ps) (sc : FnScope N ps (defScope st)) (len : ∀ A Q R, S A Q R → A.length = ps.length)
    (body : ∀ (f : Addr) (cdv : Value) (A : Around) (outer : List Env) (s : Shared) (H : Hp) (E : XK), Room k (A.deeper (envOfC n (defScope st) s.heap.objs.size f cdv)) → ∀ Γ Q R, S Γ Q R →
      ST (cxOf (CXm P w K) P w K mg base N n (defScope st) f cdv A outer s H E) (defBody st) (Γ ++ List.replicate (N.length - ps.length) .no) (finX Q R)) :
    HasD P w K mg base (k + 1) n ps S := by
  obtain ⟨f, fd, F, hb, hb2, hm⟩ := D.ex
  refine ⟨f, fd, hm, F.kp, hb, hb2, F.ok sc (fun vs H Q E ⟨F0, A, s, r, ap, h⟩ => ?_) (fun cdv A outer s H vs Q E hr h => ?_)⟩
  · rw [r.len]; exact len _ _ _ h
  · obtain ⟨F0, A0, sm, r, ap, h⟩ := h
    refine ⟨_, psW, ?_⟩
    have hl := len _ _ _ h
    have L0 := lc_start (K := K) sm r ap (N.length - ps.length)
    have L1 : Lc K ⟨F0, H, MA A0⟩ F0 H (L2.start N vs) (A0 ++ List.replicate (N.length - ps.length) .no) := by
      unfold L2.start
      rw [show vs.length = ps.length from r.len.trans hl]
      exact L0
    refine body f cdv A outer s H E hr A0 _ _ h ⟨F0, H, MA A0⟩ F0 H _ _ L1 ⟨fun F' H' σ' Γ' _ hq L => ?_, fun r v F' H' hq ex ok => hq v F' H' ex ok, fun _ _ _ _ _ z => z.elim, fun _ _ _ _ _ z => z.elim, fun F1 H1 σ' Γ' x u d _ hq L ok => ?_⟩
    · exact hq .non F' H' L.ext rfl
    · exact XW.of (takes_ofm rfl rfl rfl rfl) (hq u d F1 H1 L.ext (ok.imp fun b h => h.1))
end
end Tw
namespace L2
open PySem PySem.Spec PyProof.Rows PySem.Calls
end L2
namespace Tw
open PySem PySem.Spec PyProof.Rows L2 TL
noncomputable instance isdOpt {α : Type} [i : Rep α] [h : IsD α] : IsD (Option α) := ⟨fun x => match x with | none => .n | some y => h.d y, by
  intro K F v x
  cases x with
  | none => show v = .non ↔ _; rw [rpD]
  | some y => exact h.iff⟩
end Tw
namespace L2
open PySem PySem.Spec PyProof.Rows PySem.W PySem.Calls
end L2
namespace Tw
open PySem PySem.Spec PyProof.Rows L2 TL
end Tw
namespace LcAir
open PySem PySem.Spec PyProof.Rows L2
theorem funFrames_le {h base base' : Heap} (n : ∀ b, base.get? b = none → base'.get? b = none) : ∀ {l : List Env}, h.FunFrames base l → h.FunFrames base' l
  | [], _ => trivial
  | _ :: _, ⟨hk, ⟨L', o, hf, hb, ho, hd⟩, hr⟩ => ⟨hk, ⟨L', o, hf, n _ hb, ho, hd⟩, funFrames_le n hr⟩
theorem traced_le {h base base' : Heap} {e : Addr} {Z : Obj → Prop} {fl : Value} (n : ∀ b, base.get? b = none → base'.get? b = none) (t : HandSPX.TracedZ h base e Z fl) : HandSPX.TracedZ h base' e Z fl := by
  obtain ⟨oe, vs, T, oT, ts, a1, a2, a3, a4, a5, a6⟩ := t
  exact ⟨oe, vs, T, oT, ts, a1, a2, a3, a4, n _ a5, a6⟩
section
variable {M : Model} {A : Around} {E : Value → Shared → Prop} {s' : Shared} {base : Heap} {cenv : Env} {l : List Env} {e L : Addr} {Z : Obj → Prop} {m : Str → Option Value}
theorem compFailsZ (hf : cenv.frame = some L) (hbC : base.get? cenv.locals = none) (hn : s'.heap.Ns cenv.locals m) (hh : HandSPX.HeldZ base l e Z L s'.heap)
    (hQ : ∀ h', HandSPX.HeldZ base l e Z L h' → (∀ b o, s'.heap.get? b = some o → b ≠ cenv.locals → (∀ vs, o.data ≠ .fields vs) → ∃ sl, h'.get? b = some { o with slots := sl }) → E (.ref e) { s' with heap := h' }) :
    CompFails M A E cenv (.ref e) s' := by
  refine ⟨m, hn, fun h₂ m₂ hn₂ hs₂ => ?_⟩
  obtain ⟨b1, b0, f1, oe, vs, T, oT, ts, he, hz, hd, h1, hnT, hTe, hT, hdT, h3⟩ := hh
  obtain ⟨oL, es, ep, hoL, hdL, _⟩ := id hn
  have neE : e ≠ cenv.locals := fun q => by
    rw [q, hoL] at he
    cases he
    rw [hdL] at hd; cases hd
  have neT : T ≠ cenv.locals := fun q => by
    rw [q, hoL] at hT
    cases hT
    rw [hdL] at hdT; cases hdT
  have b2 : base.StaysIn h₂ := fun b o hb => (hs₂.2 b fun q => by rw [q, hbC] at hb; cases hb).trans (b1 b o hb)
  have f2 : h₂.FunFrames base l := Heap.FunFrames.sameBut hs₂ hn₂ f1
  have he2 : h₂.get? e = some oe := (hs₂.2 e neE).trans he
  have hT2 : h₂.get? T = some oT := (hs₂.2 T neT).trans hT
  have held : HandSPX.HeldZ base l e Z L h₂ := ⟨b2, b0, f2, oe, vs, T, oT, ts, he2, hz, hd, h1, hnT, hTe, hT2, hdT, h3⟩
  unfold PySem.passOn
  refine wpAny_bind (wpAny_field he2 hd h1 ?_)
  rw [if_neg (show ¬ ((Value.ref T == Value.none) = true) from by simp)]
  rw [hf]
  refine wpAny_bind (HandSPX.setFlight_onZ (s := { s' with heap := h₂ }) held fun h₃ hH k3 => ?_)
  refine wpAny_throw ?_
  exact hQ h₃ hH fun b o hb hbL hnf => k3 b o ((hs₂.2 b hbL).trans hb) hnf
end
theorem looksZ {M : Model} {A : Around} {E : Value → Shared → Prop} {s : Shared} {Z : Obj → Prop} {base : Heap} {env : Env} {outer : List Env} {L e : Addr} {fl : Value} {Q : Unit → Shared → Prop} (hZ : HandSPX.Steady Z) (hfr : A.frames = some (env :: outer)) (hf : env.frame = some L) (hn : (fl == rawInt L) = false)
    (hkb : base.StaysIn s.heap) (hen : base.get? e = none) (hl : s.heap.FunFrames base (env :: outer)) (ht : HandSPX.TracedZ s.heap base e Z fl)
    (hQ : ∀ h', HandSPX.HeldZ base (env :: outer) e Z L h' → s.heap.UpToSlots h' → Q () { s with heap := h' }) : wpAny M A (noteFrame (.ref e) env) Q E s := by
  obtain ⟨oe, vs, T, oT, ts, he, hz, hd, h1, hnT, hTe, hT, hdT, h3⟩ := ht
  unfold noteFrame
  simp only [hf]
  refine wpAny_bind (wpAny_field he hd h1 ?_)
  rw [if_pos (show (Value.ref T != Value.none) = true from by simp)]
  refine wpAny_bind (wpAny_field hT hdT h3 ?_)
  rw [if_neg (show ¬ ((fl == rawInt L) = true) from by rw [hn]; exact Bool.false_ne_true)]
  refine wpAny_bind (wpAny_setField hT hdT (Array.getElem?_eq_some_iff.mp h3).1 ?_)
  have other : ∀ b, b ≠ T → (s.heap.update T (Obj.mapFields (·.setIfInBounds 3 Value.none))).get? b = s.heap.get? b := fun b hb => Heap.get?_update_other _ _ (Ne.symm hb)
  have noRecord : ∀ b o, s.heap.get? b = some o → (∀ vs, o.data ≠ .fields vs) → b ≠ T := fun b o hb hnf q => by
    rw [q, hT] at hb; injection hb with hb; subst hb; exact hnf ts hdT
  refine HandSPX.wpAny_entryZ hZ hfr (hl.of_keeps fun b o hb hnf => ⟨o, (other b (noRecord b o hb hnf)).trans hb, rfl⟩) hf ((other e (Ne.symm hTe)).trans he)
    (fun b o hbo => (other b fun q => by rw [q, hnT] at hbo; cases hbo).trans (hkb b o hbo)) hen hd (Array.getElem?_eq_some_iff.mp h1).1 hz fun h' hN => ?_
  obtain ⟨x1, x2, x3, x4⟩ := hN
  exact hQ h' ⟨x1, hen, x2, x3⟩ fun b o hb hnf => x4 b o ((other b (noRecord b o hb hnf)).trans hb) hnf
noncomputable abbrev airOf (X : Cx) (ce : Env) : Value → Shared → Prop := fun u s' => notedBy (model X.prog X.w) X.A ce (CompFails (model X.prog X.w) X.A X.xe ce) u s'
theorem comp_air {X : Cx} {W Wb : WX} (tk : Takes X W) {pins : List (Addr × Obj)} {σ : L2.St} {H3 : Hp} {s3 : Shared} {scope : Scope} {ce : Env} {fp : List Addr} {Ew : Value → Shared → Prop} {u : Value} {s' : Shared} (I3 : Inv X pins σ H3 s3)
    (hcf : ce.frame = X.env.frame) (hf : X.env.frame = some X.env.locals) (hst : X.stack = X.env :: X.outer) (hCn : s3.heap.objs.size ≤ ce.locals) (hfp : ∀ b ∈ fp, (b ∈ X.ex ∨ X.s_0.heap.objs.size ≤ b) ∧ b ≠ X.env.locals ∧ (∀ x c, X.env.cells.lookup x = some c → c ≠ b) ∧ ∀ p ∈ X.pn ++ pins, p.1 ≠ b)
    (hW : ∀ cls d σb H', Wb cls d σb H' → W cls d σ H') (c : XE ((X.blk s3 H3 scope ce fp).wish Ew) Wb u s') : airOf X ce u s' := by
  obtain ⟨a, B, sI, pinsb, σb, H', cls, d, rfl, Iw, nb, up, sky, na, os, ag, hE⟩ := c
  have Ib : Inv (X.blk s3 H3 scope ce fp) pinsb σb H' sI := Iw.unwish
  have nb : ∀ b o, sI.heap.get? b = some o → b ∉ frs X.stack → B.get? b = some o := nb
  have sky : Sky B X.stack a (Zc cls d) ce.locals s'.heap := sky
  have st : B.StaysIn s'.heap := by rcases sky with z | z | z <;> exact z.1
  have ne0 : B.get? a = none := by rcases sky with z | z | z <;> exact z.2.1
  obtain ⟨m, hn, _⟩ := Ib.loc
  have hn : sI.heap.Ns ce.locals m := hn
  have nC : H' ce.locals = none := Ib.free
  have nC3 : H3 ce.locals = none := I3.hok.fresh hCn
  have lt3 : ∀ b ∈ frs X.stack, b < s3.heap.objs.size := fun b hb => by
    obtain ⟨_, o, ho, _⟩ := I3.stack.mem hb
    exact Heap.lt_size ho
  have fC : ce.locals ∉ frs X.stack := fun z => Nat.lt_irrefl _ (Nat.lt_of_lt_of_le (lt3 _ z) hCn)
  have neL : ce.locals ≠ X.env.locals := fun z => fC (by rw [hst, z]; show _ ∈ List.filterMap _ _; rw [List.filterMap_cons, hf]; exact List.mem_cons_self ..)
  obtain ⟨oC, es, ep, hoC, rC⟩ := hn
  have hnS : s'.heap.Ns ce.locals m := ⟨oC, es, ep, st _ _ (nb _ _ hoC fC), rC⟩
  obtain ⟨B', hB'⟩ : ∃ B', B' = PySem.W.hideAll B [ce.locals] := ⟨_, rfl⟩
  have le : ∀ b o, B'.get? b = some o → B.get? b = some o := fun b o q => by rw [hB'] at q; exact PySem.W.of_hideAll _ q
  have ge : ∀ b o, B.get? b = some o → b ≠ ce.locals → B'.get? b = some o := fun b o q n => by rw [hB']; exact PySem.W.hideAll_get _ q (by simpa using n)
  have nn : ∀ b, B.get? b = none → B'.get? b = none := fun b q => by
    cases z : B'.get? b with
    | none => rfl
    | some o => rw [le b o z] at q; cases q
  have hBC : B'.get? ce.locals = none := by rw [hB']; exact PySem.W.hideAll_none _ (List.mem_singleton.mpr rfl)
  have st' : B'.StaysIn s'.heap := fun b o q => st b o (le b o q)
  have hfr : X.A.frames = some (X.env :: X.outer) := by rw [I3.ok.frames, hst]
  suffices key : ∀ h1, HandSPX.HeldZ B' (X.env :: X.outer) a (Zc cls d) X.env.locals h1 → s'.heap.UpToSlots h1 → CompFails (model X.prog X.w) X.A X.xe ce (.ref a) { s' with heap := h1 } by
    show wpAny _ _ (noteFrame (.ref a) ce) _ _ s'
    rw [noteFrame_env _ hcf]
    rcases sky with ⟨_, _, ff, oe, vs, he, hz, hd, h1⟩ | ⟨_, _, ff, tr⟩ | ⟨_, _, ff, tr⟩
    · rw [hst] at ff
      exact HandSPX.look_newZ Zc.steady hfr (funFrames_le nn ff) hf he st' (nn _ ne0) hd h1 hz fun h' hH hk => key h' hH hk
    · rw [hst] at ff
      exact looksZ Zc.steady hfr hf (by simp [rawInt]) st' (nn _ ne0) (funFrames_le nn ff) (traced_le nn tr) fun h' hH hk => key h' hH hk
    · rw [hst] at ff
      exact looksZ Zc.steady hfr hf (by
        cases q : (rawInt ce.locals == rawInt X.env.locals) with
        | false => rfl
        | true =>
          have := eq_of_beq q
          simp [rawInt] at this
          exact absurd (by
            have h2 : (ce.locals : Nat) = X.env.locals := by exact_mod_cast this
            exact h2) neL) st' (nn _ ne0) (funFrames_le nn ff) (traced_le nn tr) fun h' hH hk => key h' hH hk
  intro h1 hH hk
  refine compFailsZ (hcf.trans hf) hBC (hnS.upToSlots hk) hH fun h2 hH2 hk2 => ?_
  rw [← hst] at hH2
  obtain ⟨G, g1, g2⟩ := restrict h2 fun b => (B'.get? b).isSome || decide (b ∈ frs X.stack)
  have gB : ∀ b o, B'.get? b = some o → G.get? b = some o := fun b o e => by
    rw [g1 b (by simp [e])]
    exact hH2.1 b o e
  have gF : ∀ b, b ∈ frs X.stack → G.get? b = h2.get? b := fun b hb => g1 b (by simp [hb])
  have og : ∀ b o, G.get? b = some o → h2.get? b = some o ∧ ((B'.get? b).isSome = true ∨ b ∈ frs X.stack) := fun b o e => by
    cases q : ((B'.get? b).isSome || decide (b ∈ frs X.stack)) with
    | false => rw [g2 b q] at e; cases e
    | true =>
      rw [g1 b q] at e
      exact ⟨e, by simpa [Bool.or_eq_true] using q⟩
  have ne3 : ∀ b o, s3.heap.get? b = some o → b ≠ ce.locals := fun b o e => Nat.ne_of_lt (Nat.lt_of_lt_of_le (Heap.lt_size e) hCn)
  have upG : ∀ b o, sI.heap.get? b = some o → b ∈ frs X.stack → ∃ sl, G.get? b = some { o with slots := sl } := fun b o e hb => by
    obtain ⟨_, o0, ho0, hnf⟩ := Ib.stack.mem hb
    rw [e] at ho0
    cases ho0
    obtain ⟨sl2, q2⟩ := up b o e hnf
    obtain ⟨sl3, q3⟩ := hk b _ q2 hnf
    obtain ⟨sl4, q4⟩ := hk2 b _ q3 (fun z => fC (z ▸ hb)) hnf
    exact ⟨sl4, (gF b hb).trans q4⟩
  have inv : Inv X pins σ H' { s' with heap := G } := by
    refine I3.call' (ch := ce.locals :: fp) (os.trans Ib.os) ⟨fun b o e n hb hx => ?_, fun b o e n hb hx => ?_, fun b o e n hx => ?_, fun b o e hx => ?_, fun b xs e => Ib.base.tups b xs e, fun b o x e => Ib.base.frzs b o x e, fun b ps e => Ib.base.tbls b ps e⟩ (fun b x e => ?_) ag fun b hb => ?_
    · have hx2 : b ∉ fp := fun z => hx (List.mem_cons_of_mem _ z)
      exact gB b o (ge b o (nb b o (Ib.base.keep b o e n hb hx2) hb) (ne3 b o e))
    · have hx2 : b ∉ fp := fun z => hx (List.mem_cons_of_mem _ z)
      obtain ⟨sl1, q1⟩ := Ib.base.slot b o e n hb hx2
      obtain ⟨sl2, q2⟩ := upG b _ q1 hb
      exact ⟨sl2, q2⟩
    · exact Ib.base.free b o e n fun z => hx (List.mem_cons_of_mem _ z)
    · have hx2 : b ∉ fp := fun z => hx (List.mem_cons_of_mem _ z)
      obtain ⟨o0, q0⟩ := Ib.base.there b o e hx2
      by_cases hb : b ∈ frs X.stack
      · obtain ⟨sl, q⟩ := upG b o0 q0 hb
        exact ⟨_, q⟩
      · exact ⟨o0, gB b o0 (ge b o0 (nb b o0 q0 hb) (ne3 b o e))⟩
    · have nit : ∀ c v, H' c = some v → c ≠ ce.locals ∧ c ∉ frs X.stack := fun c v q => ⟨fun z => by rw [z, nC] at q; (cases q), fun hb => by
        obtain ⟨o3, ho3⟩ : ∃ o, s3.heap.get? c = some o := by
          obtain ⟨_, o, ho, _⟩ := I3.stack.mem hb
          exact ⟨o, ho⟩
        have n3 : H3 c = none := Ib.ok.frf c hb
        have := Ib.base.free c o3 ho3 n3 (fun z => Ib.ok.exfs c z hb)
        rw [this] at q; (cases q)⟩
      refine (Ib.hok b x e).stay (fun c v hc q => ?_) (fun _ q => q) fun _ _ q => q
      obtain ⟨k1, k2⟩ : c ≠ ce.locals ∧ c ∉ frs X.stack := by
        rcases hc with z | z
        · rw [z]; exact nit b x e
        · exact nit c _ z
      exact gB c v (ge c v (nb c v q k2) k1)
    · rcases List.mem_cons.mp hb with rfl | hb
      · obtain ⟨_, f1, _, f3, f4, f5⟩ := I3.fpOk hCn nC3
        exact ⟨f3, f1, f4, f5⟩
      · exact hfp b hb
  refine tk _ _ ⟨a, B', { s' with heap := G }, pins, σ, H', cls, d, rfl, inv, fun b o e hb => ?_, Heap.UpToSlots.of_keeps fun b o e => (og b o e).1, .inr (.inr hH2), na, rfl, ag, hW _ _ _ _ hE⟩
  obtain ⟨e', h⟩ := og b o e
  rcases h with h | h
  · obtain ⟨o', q⟩ := Option.isSome_iff_exists.mp h
    have z := hH2.1 b o' q
    rw [e'] at z; cases z
    exact q
  · exact absurd h hb
section
variable {X : Cx}
theorem lcA_core {pins : List (Addr × Obj)} {s : Shared} {σ : L2.St} {H : Hp} {Q : VK} {elt tg iter : Expr} {scope : Scope} {own : List (Str × Nat)} {pos pos' : Pos} {wi : TI} {g : TG} {tt : TT} {ifs : List Expr} {te : TE} {use : Option (Value → Sem Unit)} {Qf : Value → Shared → Prop}
    (hc : X.calm = true) (hN : X.N.Nodup) (I : Inv X pins σ H s) (hi : PI X tg iter wi) (ok : BlkOk X.N X.env.scope scope own)
    (hg : ∀ (s : Shared) (H : Hp) (C : Addr) (cl : List (Str × Addr)) (fp : List Addr), PG (X.blk s H scope (compEnvC scope cl C X.env) fp) tg g) (ht : ∀ (s : Shared) (H : Hp) (C : Addr) (cl : List (Str × Addr)) (fp : List Addr), PTs (X.blk s H scope (compEnvC scope cl C X.env) fp) ifs tt)
    (he : ∀ (s3 : Shared) (H3 : Hp) (cl : List (Str × Addr)) (fp : List Addr), Inv X pins σ H3 s3 → (∀ b ∈ fp, FpOk X pins H3 b) → PE ((X.blk s3 H3 scope (compEnvC scope cl s3.heap.objs.size X.env) fp).wish (airOf X (compEnvC scope cl s3.heap.objs.size X.env))) elt te) (hs : ∀ x, foldedSetIterable iter X.env x = pure x)
    (h : tLc wi g tt te (own.map (·.2)) σ H Q)
    (hRR : ∀ D (ce : Env) s' m H', Inv X pins σ H' s' → Q (.ref D) H' → s'.heap.Ns ce.locals m → FpOk X pins H' ce.locals → compEnds (model X.prog X.w) X.A X.xe use Qf (.ref D) ce (.ok .next) s') :
    wpAny (model X.prog X.w) X.A (comprehension (.ListComp elt [⟨tg, iter, ifs, 0⟩] scope pos) scope X.env pos' (newList []) false (eval iter X.env) use) Qf X.xe s := by
  have hfree : ∀ y ∈ scope.names, y.2 = .free → ∃ c, X.env.cells.lookup y.1 = some c := fun y hy e => (ok.free y hy e).elim (fun k => I.ok.has _ (.inl k)) fun k => I.ok.has _ (.inr k)
  refine comprehension_at (use := use) rfl hs (closure_ok hfree) ok.kind (fun y hy e => by rw [ok.uniq y hy, e]) (thn (hi.run pins s σ H _ I h) fun xv s1 hx => thn hx fun itv s2 h2 => ?_)
  obtain ⟨it, fp, tn, J, H2, e, I2, T, st2, f2, q⟩ := h2
  subst e
  refine wpAny_newObj_type (newEnv_comp ?_) (by show 0 ≤ sizeLine; decide)
  generalize hD : s2.heap.objs.size = D
  have hDn : H2 D = none := I2.hok.fresh (Nat.le_of_eq hD)
  obtain ⟨Wn, ⟨m0, w0⟩, turn⟩ := q D hDn
  generalize hs3 : ({ s2 with heap := s2.heap.push { cls := .type "list", data := .seq ([] : List Value).toArray } } : Shared) = s3
  have I3 : Inv X pins σ (upd H2 D (.lst [])) s3 := by
    rw [← hs3]
    refine I2.laid (t' := s2.toks) (fun b o e => Heap.get?_push_of_some _ e) (Nat.le_of_eq hD) ⟨Nat.zero_le _, [], 0, .nil, ?_⟩
    rw [← hD]
    exact Heap.get?_push_size _ rfl
  have h3 : s3.heap = s2.heap.push { cls := .type "list", data := .seq ([] : List Value).toArray } := by rw [← hs3]
  have f3 : ∀ b ∈ fp, FpOk X pins (upd H2 D (.lst [])) b ∧ b < s3.heap.objs.size := fun b hb => by
    have hlt : b < s2.heap.objs.size := by
      obtain ⟨o, e, _⟩ := T.obj _ _ st2 b hb
      exact Heap.lt_size e
    refine ⟨⟨?_, (f2 b hb).2⟩, by rw [h3, Heap.size_push]; exact Nat.lt_succ_of_lt hlt⟩
    rw [upd_ne (by rw [← hD]; exact Nat.ne_of_lt hlt)]
    exact (f2 b hb).1
  have st3 : tn 0 s3.heap := T.keep _ _ _ st2 fun b _ o e => by rw [h3]; exact Heap.get?_push_of_some _ e
  have I4 := block_start I3 ok hN f3
  have pg := hg s3 (upd H2 D (.lst [])) s3.heap.objs.size (cellsFrom (s3.heap.objs.size + 1) scope.names (cloFrom X.env.cells scope.names [])) fp
  have pt := ht s3 (upd H2 D (.lst [])) s3.heap.objs.size (cellsFrom (s3.heap.objs.size + 1) scope.names (cloFrom X.env.cells scope.names [])) fp
  have pe := he s3 (upd H2 D (.lst [])) (cellsFrom (s3.heap.objs.size + 1) scope.names (cloFrom X.env.cells scope.names [])) fp I3 fun b hb => (f3 b hb).1
  show codeAny _ _ (.compStart (.ListComp elt [⟨tg, iter, ifs, 0⟩] scope pos) 0 (.ref it) (.ref D) (compEnvC scope (cellsFrom (s3.heap.objs.size + 1) scope.names (cloFrom X.env.cells scope.names [])) s3.heap.objs.size X.env)) (compEnds (model X.prog X.w) X.A X.xe use Qf (.ref D) (compEnvC scope (cellsFrom (s3.heap.objs.size + 1) scope.names (cloFrom X.env.cells scope.names [])) s3.heap.objs.size X.env)) { s3 with heap := pushCells (s3.heap.push { cls := .type "dict", data := .dict #[] }) scope.names }
  have nfp : ∀ b ∈ fp, (upd H2 D (.lst [])) b = none := fun b hb => (f3 b hb).1.1
  generalize hce : compEnvC scope (cellsFrom (s3.heap.objs.size + 1) scope.names (cloFrom X.env.cells scope.names [])) s3.heap.objs.size X.env = ce at I4 pg pt pe ⊢
  have cL : ce.locals = s3.heap.objs.size := by subst hce; rfl
  generalize hH3 : upd H2 D (.lst []) = H3 at I3 I4 pg pt pe w0 nfp f3
  generalize hs4 : ({ s3 with heap := pushCells (s3.heap.push { cls := .type "dict", data := .dict #[] }) scope.names } : Shared) = s4 at I4 ⊢
  have st4 : tn 0 s4.heap := T.keep _ _ _ st3 fun b _ o e => by rw [← hs4]; exact pushCells_keeps _ _ _ _ (Heap.get?_push_of_some _ e)
  have stat : ∀ {σ' : L2.St} {H' : Hp} {s' : Shared}, Inv (X.blk s3 H3 scope ce fp) [] σ' H' s' → (∀ b ∈ fp, H' b = none) → ∀ b ∈ fp, FpOk (X.blk s3 H3 scope ce fp) [] H' b := fun {σ' H' s'} I' hn b hb =>
    ⟨hn b hb, (I'.ok.exf b hb).1, I'.ok.exfs b hb, .inl hb, fun x c e => (I'.ok.exf b hb).2 x c e, fun p hp => absurd (show p ∈ ([] : List (Addr × Obj)) ++ [] from hp) (by simp)⟩
  have err : ∀ {u : Value} {s' : Shared}, airOf X ce u s' → notedBy (model X.prog X.w) X.A ce (fun e s' => compEnds (model X.prog X.w) X.A X.xe use Qf (.ref D) ce (.error e) s') u s' := fun {u s'} z => by cases use <;> exact z
  have loop : codeAny (model X.prog X.w) X.A (.compLoop (.ListComp elt [⟨tg, iter, ifs, 0⟩] scope pos) 0 (.ref it) (.ref D) ce) (compEnds (model X.prog X.w) X.A X.xe use Qf (.ref D) ce) s4 := by
    refine compLoop_any (fun n s' => ∃ i H', Inv (X.blk s3 H3 scope ce fp) [] (wipe σ (own.map (·.2))) H' s' ∧ tn i s'.heap ∧ (∀ b ∈ fp, H' b = none) ∧ Wn i n H') ?_ m0 ⟨0, H3, I4, st4, nfp, w0⟩
    rintro n s5 ⟨i, H5, I5, st5, n5, w5⟩
    rcases turn i n H5 w5 with ⟨stop, qq⟩ | ⟨go, Nx, hNx, step⟩
    · refine thnF (T.done (X.blk s3 H3 scope ce fp) rfl rfl rfl hc i [] s5 _ H5 (fun _ _ => False) I5 (stat I5 n5) st5 stop) fun r s6 ⟨hr, I6⟩ => ?_
      subst hr
      have I7 : Inv X pins σ H5 s6 := I3.call' (ch := fp) I6.os I6.base I6.hok I6.bare fun b hb => ⟨(f3 b hb).1.2.2.2.1, (f3 b hb).1.2.1, (f3 b hb).1.2.2.2.2.1, (f3 b hb).1.2.2.2.2.2⟩
      have nC : H5 ce.locals = none := I6.free
      obtain ⟨m, hn, _⟩ := I6.loc
      exact hRR D ce s6 m H5 I7 qq hn (I3.fpOk (by rw [cL]; exact Nat.le_refl _) nC)
    · refine thnF (T.item (X.blk s3 H3 scope ce fp) rfl rfl rfl hc i [] s5 _ H5 (fun _ _ => False) I5 (stat I5 n5) st5 go) fun r s6 ⟨u, hr, h6⟩ => ?_
      subst hr
      refine thnF h6 fun _ s7 ⟨x, H7, I7, r7, y7, st7, n7⟩ => ?_
      have I7' := I7.pinned (stat I7 n7) (T.obj _ _ st7)
      refine thnF (pg.run _ s7 _ H7 x u _ I7' r7 (step x H7 y7)) fun _ s8 ⟨σ8, H8, I8, hw8, q8⟩ => ?_
      refine thnF (pt.run _ s8 σ8 H8 _ I8 q8) fun b s9 ⟨H9, I9, q9⟩ => ?_
      have fin : ∀ {s' : Shared} {H' : Hp}, Inv (X.blk s3 H3 scope ce fp) ([] ++ pinsAt fp s7.heap) σ8 H' s' → Nx H' → ∃ m, m < n ∧ ∃ i H', Inv (X.blk s3 H3 scope ce fp) [] (wipe σ (own.map (·.2))) H' s' ∧ tn i s'.heap ∧ (∀ b ∈ fp, H' b = none) ∧ Wn i m H' := fun {s' H'} I' nx => by
        obtain ⟨m', hm, w'⟩ := hNx H' nx
        have pin' : ∀ b ∈ fp, ∀ o, s7.heap.get? b = some o → s'.heap.get? b = some o ∧ H' b = none := fun b hb o e =>
          let z := I'.pin (b, o) (List.mem_append_right _ (List.mem_append_right _ (mem_pinsAt hb e)))
          ⟨z.1, z.2.1⟩
        have hl : (wipe σ (own.map (·.2))).length = σ8.length := by rw [← hw8, wipe_length]
        refine ⟨m', hm, i + 1, H', (I'.unpinned (pins := [])).weak hl (fun j v e => ?_), T.keep _ _ _ st7 fun b hb o e => (pin' b hb o e).1, fun b hb => ?_, w'⟩
        · rw [← hw8] at e
          exact (wipe_some e).1
        · obtain ⟨o, e, _⟩ := T.obj _ _ st7 b hb
          exact (pin' b hb o e).2
      cases b with
      | false =>
        simp only [Bool.false_eq_true, if_false] at q9 ⊢
        exact fin I9 q9
      | true =>
        simp only [if_true] at q9 ⊢
        refine wpAny_mono (pe.run _ s9 σ8 H9 _ (I9.wish _) q9) (fun z s10 ⟨yv, H10, I10w, r10, acc, hD10, hz10, nx⟩ => ?_) fun e s' z => err z
        have I10 : Inv (X.blk s3 H3 scope ce fp) _ σ8 H10 s10 := I10w.unwish
        exact app_ok (X := X.blk s3 H3 scope ce fp) I10 hD10 hz10 r10 fun s11 I11 => fin I11 nx
  exact codeAny_compStart_list loop (T.self X.A 0 _ _ _ st4 loop)
noncomputable abbrev BlkA (X : Cx) (scope : Scope) (s : Shared) (H : Hp) (cl : List (Str × Addr)) (fp : List Addr) : Cx := (X.blk s H scope (compEnvC scope cl s.heap.objs.size X.env) fp).wish (airOf X (compEnvC scope cl s.heap.objs.size X.env))
theorem ps_setLcA {i : Nat} {y : Str} {py : Pos} {elt tg iter : Expr} {ifs : List Expr} {scope : Scope} {own : List (Str × Nat)} {pos spos : Pos} {wi : TI} {g : TG} {tt : TT} {te : L2.St → TE} (hc : X.calm = true) (hN : X.N.Nodup) (hy : X.N[i]? = some y) (hyl : X.env.scope.names.lookup y = some .local)
    (hsw : swapsWith (.ListComp elt [⟨tg, iter, ifs, 0⟩] scope pos) (some (.Name y py)) spos.line X.env = pure true) (hi : PI X tg iter wi) (ok : BlkOk X.N X.env.scope scope own)
    (hg : ∀ (s : Shared) (H : Hp) (C : Addr) (cl : List (Str × Addr)) (fp : List Addr), PG (X.blk s H scope (compEnvC scope cl C X.env) fp) tg g) (ht : ∀ (s : Shared) (H : Hp) (C : Addr) (cl : List (Str × Addr)) (fp : List Addr), PTs (X.blk s H scope (compEnvC scope cl C X.env) fp) ifs tt)
    (he : ∀ (pins : List (Addr × Obj)) (σ : L2.St) (s3 : Shared) (H3 : Hp) (cl : List (Str × Addr)) (fp : List Addr), Inv X pins σ H3 s3 → (∀ b ∈ fp, FpOk X pins H3 b) → PE (BlkA X scope s3 H3 cl fp) elt (te σ)) (hs : autoParam (∀ x, foldedSetIterable iter X.env x = pure x) Tw.aIR1) :
    PS X (.Assign [.Name y py] (.ListComp elt [⟨tg, iter, ifs, 0⟩] scope pos) spos) (fun D σ H => tLc wi g tt (te σ) (own.map (·.2)) σ H fun x H1 => gName i x σ H1 D.nx) := by
  refine ⟨fun pins s σ H D I h => ?_⟩
  rw [exec_Assign_Name_used _ _ _ _ hsw]
  refine wpAny_bind (wpAny_standAt (wpAny_bind ?_))
  show wpAny _ X.A (do let _ ← comprehension (.ListComp elt [⟨tg, iter, ifs, 0⟩] scope pos) scope X.env (firstIterPos [⟨tg, iter, ifs, 0⟩] pos) (newList []) false (eval iter X.env) (some (assign (.Name y py) X.env))) _ _ s
  refine wpAny_bind (thn (lcA_core (Qf := fun _ s' => SP X pins D .next s') hc hN I hi ok hg ht (he pins σ) hs h fun L ce s' m H' I' q hn f => ?_) fun _ s' hq => wpAny_pure (wpAny_pure hq))
  show wpAny _ _ (assign (.Name y py) X.env (.ref L)) _ _ _
  refine wpAny_assign_Name (store_ok2 (v := V.ref L) I' hN hy (.inl hyl) rfl (fun s2 I2 ⟨a, sb, ha⟩ => ?_) (.inr hyl))
  obtain ⟨f0, f1, f2, f3, f4, f5⟩ := f
  have haC : ce.locals ≠ a := by
    rcases ha with z | z
    · rw [z]; exact f1
    · exact fun e => f4 y a z e.symm
  refine ⟨m, hn.sameBut sb haC, fun h3 sb3 => ?_⟩
  exact ⟨_, H', I2.turned (t' := s2.toks) (fun b o hb e => (sb3.2 b hb).trans e) f0 f1 f3 f4 f5, q⟩
end
end LcAir
namespace Tw
open PySem PySem.Spec PyProof.Rows L2 TL LcAir
section
variable {X : Cx} {Γ : List Slot} {α β γ : Type} {i : Rep α} {j : Rep β} {pos p p2 p3 : Pos} {e a b c elt tg it : Expr} {es : List Expr} {E : SE} {rest body : List Stmt}
theorem xw_air {pins : List (Addr × Obj)} {σ σb : L2.St} {H3 H : Hp} {s3 : Shared} {scope : Scope} {cl : List (Str × Addr)} {fp : List Addr} {cls : Value} {d : Option Addr} (I3 : Inv X pins σ H3 s3) (hfp : ∀ b ∈ fp, FpOk X pins H3 b)
    (hf : X.env.frame = some X.env.locals) (hst : X.stack = X.env :: X.outer) (fr : FrC X.K cls) (h : XW X cls d σ H) : XW (BlkA X scope s3 H3 cl fp) cls d σb H := fun u s' x => by
  have x2 : XE (BlkA X scope s3 H3 cl fp) (fun c d' σ' H' => FrC X.K c ∧ c = cls ∧ d' = d ∧ σ' = σb ∧ H' = H) u s' := by
    rcases x with z | z
    · refine xe_imp (fun c _ _ _ z => ⟨?_, z⟩) (xe_zc z)
      rw [z.1]; exact fr
    · exact z
  exact comp_air (W := fun c d' σ' H' => FrC X.K c ∧ c = cls ∧ d' = d ∧ σ' = σ ∧ H' = H) (Wb := fun c d' σ' H' => FrC X.K c ∧ c = cls ∧ d' = d ∧ σ' = σb ∧ H' = H) (fun u s' z => h u s' (.inr z)) I3 rfl hf hst (Nat.le_refl _)
    (fun b hb => by obtain ⟨_, f1, _, f3, f4, f5⟩ := hfp b hb; exact ⟨f3, f1, f4, f5⟩) (fun _ _ _ _ z => ⟨z.1, z.2.1, z.2.2.1, rfl, z.2.2.2.2⟩) x2
theorem st_setLcX (m : Nat) {y : Str} {py spos : Pos} {scope : Scope} {own : List (Str × Nat)} {xs : List α} {G : α → β → Prop} {R : α → Exn → Prop} {bind : α → List Slot → List Slot} {g : TG} (hS : Src X Γ tg it xs) (hT : Tg X.K g bind (own.map (·.2))) (hg : ∀ s H C cl fp, PG (Blk X scope s H C cl fp) tg g)
    (he : ∀ x ∈ xs, ∀ s H cl fp, EXX (BlkA X scope s H cl fp) (bind x (wipeS Γ (own.map (·.2)))) elt (fun r => ∃ y, G x y ∧ r = .val j y) (R x)) (hN : X.N.Nodup) (hz : xs.length ≤ sizeLine)
    (hr : ∀ ad ys, ys.length = xs.length → (∀ (k : Nat) x y, xs[k]? = some x → ys[k]? = some y → G x y) → ST X rest (Γ.set m (.lst j ad ys)) E) (hR : ∀ (k : Nat) x, xs[k]? = some x → (∀ t, t < k → ∀ x', xs[t]? = some x' → ∃ y, G x' y) → ∀ e, R x e → FrX X.K e ∧ E.ex Γ e)
    (ok : BlkOk X.N X.env.scope scope own := by exact blkOk_by (by decide +kernel)) (hy : autoParam (X.N[m]? = some y) aRfl) (hyl : autoParam (X.env.scope.names.lookup y = some .local) aRfl)
    (hsw : swapsWith (.ListComp elt [⟨tg, it, [], 0⟩] scope pos) (some (.Name y py)) spos.line X.env = pure true := by exact sw_true rfl rfl rfl (by decide +kernel))
    (hf : autoParam (X.env.frame = some X.env.locals) Tw.aRfl) (hst : autoParam (X.stack = X.env :: X.outer) Tw.aRfl)
    (hc : autoParam (X.calm = true) aRfl) (hs : autoParam (∀ x, foldedSetIterable it X.env x = pure x) Tw.aIR1) : ST X (.Assign [.Name y py] (.ListComp elt [⟨tg, it, [], 0⟩] scope pos) spos :: rest) Γ E := fun B F H σ D L ed => by
  obtain ⟨wi, hi, run⟩ := hS
  refine WP.cons (ps_setLcA (te := fun σd σ H Q => ∀ pins s3 H3 cl fp, Inv X pins σd H3 s3 → (∀ b ∈ fp, FpOk X pins H3 b) → WE (BlkA X scope s3 H3 cl fp) elt σ H Q) hc hN hy hyl hsw hi ok hg (fun _ _ _ _ _ => pts_nil) (fun pins σd s3 H3 cl fp I3 hfp => ⟨fun pins' s' σ' H' Q' I h => (h pins s3 H3 cl fp I3 hfp).go pins' s' I⟩) hs) ?_
  refine run B F H σ _ L fun J F1 H1 e1 Y D0 hD => ?_
  have L1 := L.step e1
  refine ⟨fun t m H' => m = xs.length - t ∧ t ≤ xs.length ∧ ∃ F2 acc, ∃ ys : List β, Ext F1 H1 F2 H' ∧ F2 D0 = none ∧ H' D0 = some (.lst acc) ∧ ys.length = t ∧ (∀ (k : Nat) x y, xs[k]? = some x → ys[k]? = some y → G x y) ∧ Paired (fun u x => j.rp X.K F2 u x) acc ys,
    ⟨xs.length, rfl, Nat.zero_le _, F1, [], [], Ext.apart L1.same hD, L1.same.free hD, upd_same, rfl, (fun k x y _ h => by simp at h), .nil⟩, ?_⟩
  rintro t m0 H2 ⟨rfl, ht', F2, acc, ys, e2, fD, hD2, hl, hG, pr⟩
  have Y2 := Y F2 H2 e2.ff e2.fh
  by_cases hlt : t < xs.length
  · have hx : xs[t]? = some xs[t] := List.getElem?_eq_getElem hlt
    have hmem : xs[t] ∈ xs := List.getElem_mem hlt
    obtain ⟨go, yl⟩ := Y2.1 t _ hx
    refine .inr ⟨go, fun H' => ∃ F3 acc, ∃ ys : List β, Ext F1 H1 F3 H' ∧ F3 D0 = none ∧ H' D0 = some (.lst acc) ∧ ys.length = t + 1 ∧ (∀ (k : Nat) x y, xs[k]? = some x → ys[k]? = some y → G x y) ∧ Paired (fun u x => j.rp X.K F3 u x) acc ys, fun H' h => ⟨xs.length - (t + 1), by omega, rfl, hlt, h⟩, fun v H3 hy => ?_⟩
    obtain ⟨F3, e3, r3⟩ := yl v H3 hy
    have L3 := ((L1.step e2).wipe (own.map (·.2))).step e3
    refine hT.run B F3 H3 _ _ v _ _ L3 r3 fun σ2 L4 hw => ⟨by rw [hw, wipe_wipe], ?_⟩
    show ∀ (pins : List (Addr × Obj)) (s3 : Shared) (H3' : Hp) (cl : List (Str × Addr)) (fp : List Addr), Inv X pins σ H3' s3 → (∀ b ∈ fp, FpOk X pins H3' b) → WE (BlkA X scope s3 H3' cl fp) _ σ2 H3 _
    intro pins s3 H3' cl fp I3 hfp
    refine he _ hmem s3 H3' cl fp B F3 H3 σ2 _ L4 (fun r w F5 H5 er e5 r5 => ?_) (fun x u d F5 H5 hx5 e5 ok5 => ?_)
    · obtain ⟨y, gy, rfl⟩ := er
      have e345 := e3.trans e5
      have hD5 : H5 D0 = some (.lst acc) := e345.hs _ _ hD2
      have fD5 : F5 D0 = none := e345.nw D0 fD (by rw [hD2]; exact fun z => nomatch z)
      have e25 := e2.trans e345
      have hla := Paired.length pr
      refine ⟨acc, hD5, by omega, F5, acc ++ [w], ys ++ [y], ⟨e25.ff, same_upd e25.fh fD5, fun b o nb ob => ?_, e25.nwM, fun _ z => z.elim⟩, fD5, upd_same, by rw [List.length_append, hl]; rfl, fun k x' y' hx' hy' => ?_, papp (Paired.mapP pr fun _ _ z => j.mono e345.ff z) (.cons r5 .nil)⟩
      · rw [upd_ne (ne_of_none ob hD)]; exact e25.hh b o nb ob
      · by_cases hk : k < t
        · rw [List.getElem?_append_left (by omega)] at hy'
          exact hG k x' y' hx' hy'
        · have hkl : k < (ys ++ [y]).length := (List.getElem?_eq_some_iff.mp hy').1
          rw [List.length_append, hl] at hkl
          have : k = t := by simp at hkl; omega
          subst this
          rw [hx] at hx'
          rw [List.getElem?_append_right (by omega), hl, Nat.sub_self] at hy'
          cases hx'
          cases hy'
          exact gy
    · obtain ⟨Cx0, eCx, nCx, _⟩ := id ok5
      have hRx := hR t _ hx (fun t' ht' x' hx' => (by
        have hyt : ys[t']? = some ys[t'] := List.getElem?_eq_getElem (by omega)
        exact ⟨_, hG t' x' _ hx' hyt⟩)) _ hx5
      refine xw_air I3 hfp hf hst (by rw [eCx]; exact hRx.1 _ nCx) ?_
      have e15 := (e2.trans (e3.trans e5))
      have eF : Ext F H F5 H5 := e1.trans ⟨e15.ff, e15.fh, e15.hh, e15.nwM, fun _ z => z.elim⟩
      refine ed.exS (Same.refl F) hRx.2 L eF (ok5.imp fun b hb => ?_)
      have e13 := e1.trans (e2.trans e3)
      exact e13.hs.free hb
  · have et : t = xs.length := by omega
    subst et
    exact .inl ⟨Y2.2, hr D0 ys hl hG B F2 H2 _ D (L.putL m (e1.trans e2) (e1.hs.free hD) fD hD2 pr) (ed.weak (e1.ff.trans e2.ff))⟩
end
end Tw
namespace Tw
open PySem PySem.Spec PyProof.Rows L2 TL
noncomputable def NfX (K : PySem.W.Frag) (y : Exn) : Prop := ∀ C, PySem.W.nsIn K mainGlobals y.cls = some (some (.ref C)) → ¬ FrC K (.ref C)
theorem own_ref {K : PySem.W.Frag} {A : Addr} {oc : Value} {od : Option Addr} {cd : ClassData} {sl : Array (Option Value)} {n : Str} (ho : K.lookup A = some ⟨oc, od, .cls cd, sl⟩) : PySem.W.ownIn K n (.ref A) = PySem.W.nsIn K cd.ns n := by
  show (match K.lookup A with | some ⟨_, _, .cls cd, _⟩ => PySem.W.nsIn K cd.ns n | _ => none) = _
  rw [ho]
theorem blt_own : fastBuiltinOwn "ValueError" "__init__" = some (.builtin "ValueError.__init__") := by decide +kernel
theorem blt_init {K : PySem.W.Frag} : PySem.W.ownIn K "__init__" (.type "ValueError") = some (some (.builtin "ValueError.__init__")) := congrArg some blt_own
theorem along_tail {K : PySem.W.Frag} {f : Addr} : ∀ {l : List Value}, PySem.W.tailIn K [.type "ValueError", .type "Exception", .type "BaseException", .type "object"] l = true → PySem.W.alongIn K "__init__" l ≠ some (some (.ref f))
  | [], e => by cases beq_iff_eq.mp e
  | v :: r, e => by
    unfold PySem.W.tailIn at e
    rcases Bool.or_eq_true_iff.mp e with q | q
    · have q := beq_iff_eq.mp q
      rw [q]
      unfold PySem.W.alongIn
      rw [blt_init]
      intro z
      cases z
    · split at q
      · split at q
        · rename_i A _ _ _ cd _ ho
          simp only [Bool.and_eq_true, beq_iff_eq] at q
          have e2 : PySem.W.ownIn K "__init__" (.ref A) = some none := (own_ref ho).trans q.1.2
          unfold PySem.W.alongIn
          rw [e2]
          exact along_tail q.2
        · cases q
      · cases q
theorem XPlain.nf {K : PySem.W.Frag} {n fld : Str} {w : Slot} (h : XPlain K n) : NfX K ⟨n, fld, w⟩ := fun C hC ⟨f, hf⟩ => by
  have q := h C hC
  unfold PySem.W.excIn at q
  split at q
  · rename_i dd cd sl ho
    split at q
    · rename_i C' bm k0 k1 k2 k3 nn k5 hm hs
      simp only [Bool.and_eq_true, beq_iff_eq, Bool.not_eq_true'] at q
      obtain ⟨⟨⟨⟨⟨rfl, rfl⟩, hdel⟩, ht⟩, hok⟩, hni⟩ := q
      have hf : (match K.lookup C' with | some ⟨_, _, .cls cd, _⟩ => PySem.W.alongIn K "__init__" cd.mro | _ => none) = some (some (.ref f)) := hf
      rw [ho] at hf
      have hf : PySem.W.alongIn K "__init__" cd.mro = some (some (.ref f)) := hf
      rw [hm] at hf
      have e2 : PySem.W.ownIn K "__init__" (.ref C') = some none := (own_ref ho).trans hni
      unfold PySem.W.alongIn at hf
      rw [e2] at hf
      exact along_tail ht hf
    · cases q
  · cases q
theorem Dx.fr {K : PySem.W.Frag} {n fld qual : Str} {st : Stmt} {ps : List Str} {w : Slot} {f2 : Str} (D : Dx K n fld qual st ps) : FrX K ⟨n, f2, w⟩ := fun C hC => by
  obtain ⟨C', fI, fd, hC', _, _, hi, _⟩ := D.ex
  obtain rfl := ns_one hC' hC
  exact ⟨fI, hi⟩
section
variable {X : Cx} {Γ : List Slot} {α : Type} {i : Rep α} {pos pos' np p p2 : Pos} {e : Expr} {E : SE} {rest body suite : List Stmt} {b₀ : Stmt}
theorem st_tryR {x : Str} (hc : XC X.K X.mg x) (hpa : ∀ hd : Option Value, PassesOwnAt (model X.prog X.w) (X.A.mark hd) X.A X.env X.xe)
    (hb : ∀ pn xe, PassesOwn (model X.prog X.w) X.A X.env xe → ST (X.tr pn xe) body Γ { E with nx := fun Γ' => ST X rest Γ' E, ex := fun Γ' y => XSub X.K y.cls x true ∧ NfX X.K y ∧ ∀ a oe pn, L2H.HotC (L2H.suiteX X a ((a, oe) :: pn)) → ST (L2H.suiteX X a ((a, oe) :: pn)) (b₀ :: suite) Γ' { nx := fun Γ2 => ST X rest Γ2 E, rt := E.rt, bk := E.bk, ct := E.ct, ex := fun Γ2 y => FrX X.K y ∧ E.ex Γ2 y } })
    (hg : autoParam (Gl X x) aRfl) (hdb : autoParam ((x == ("__debug__" : Str)) = false) aDec) (hs : autoParam (X.stack = X.env :: X.outer) aRfl) (hf : autoParam (X.env.frame = some X.env.locals) aRfl) :
    ST X (.Try body [.ExceptHandler (some (.Name x np)) none (b₀ :: suite) pos'] [] [] pos :: rest) Γ E := fun B F H σ D L ed => by
  obtain ⟨C, xC, gC⟩ := hc
  refine WP.cons (L2H.ps_try_onlyX (tb := fun W D σ H => ∀ pn xe, L2N.Takes (X.tr pn xe) W → PassesOwn (model X.prog X.w) X.A X.env xe → WP (X.tr pn xe) body D σ H)
    (ts := fun a _ _ D σ H => ∀ oe pn, Takes (L2H.suiteX X a ((a, oe) :: pn)) (fun c d σ H => FrC X.K c ∧ XW X c d σ H) → L2H.HotC (L2H.suiteX X a ((a, oe) :: pn)) → WP (L2H.suiteX X a ((a, oe) :: pn)) (b₀ :: suite) D σ H) hs hf ⟨hg, hdb, .inl gC⟩ hpa takesWf
    (fun W pn xe tk _ hp => ⟨fun pins s σ H D I h => (h pn xe tk hp).go pins s I⟩) (fun a oe _ _ pn _ _ tk hot => ⟨fun pins s σ H D I h => (h oe pn tk hot).go pins s I⟩)) ?_
  intro pn xe tk hp
  refine hb pn xe hp B F H σ _ L ⟨fun F1 H1 σ1 Γ1 s1 h1 L1 => h1 B F1 H1 σ1 D L1 (ed.weak s1), ed.rt, ed.bk, ed.ct, fun F1 H1 σ1 Γ1 y u d s1 h1 L1 ok => ?_⟩
  obtain ⟨Cy, eu, nCy, _⟩ := id ok
  subst eu
  obtain ⟨hsub, hnf, hsu⟩ := h1
  refine XW.ofN tk (hnf _ nCy) ⟨true, (hsub Cy C nCy xC.ns).1, fun _ a ha oe pn tk2 hot => ?_, fun z => nomatch z⟩
  refine hsu a oe pn hot B F1 H1 σ1 _ L1 ⟨fun F5 H5 σ5 Γ5 s5 h5 L5 => h5 B F5 H5 _ D L5 (ed.weak (s1.trans s5)), ed.rt, fun F5 H5 σ5 Γ5 s5 h5 L5 => ed.bk F5 H5 _ _ (s1.trans s5) h5 L5, fun F5 H5 σ5 Γ5 s5 h5 L5 => ed.ct F5 H5 _ _ (s1.trans s5) h5 L5, fun F5 H5 σ5 Γ5 y5 u5 d5 s5 h5 L5 ok5 => ?_⟩
  obtain ⟨C5, e5, n5, _⟩ := id ok5
  subst e5
  exact XW.of (takesm_of tk2) ⟨h5.1 _ n5, ed.ex F5 H5 σ5 Γ5 y5 _ d5 (s1.trans s5) h5.2 L5 ok5⟩
structure XInitH (P : Program) (w : World) (K : PySem.W.Frag) (mg : Str → Option Value) (base : Heap) (k : Nat) (n fld : Str) : Prop where
  ex : ∀ C, PySem.W.nsIn K mainGlobals n = some (some (.ref C)) → OexC K C ∧ ∃ (fI : Addr) (fd : FuncData) (ps : List Str), PySem.W.findIn K (.ref C) "__init__" = some (some (.ref fI)) ∧ PySem.W.typeIn K (.ref fI) = some (.type "function") ∧ Binds K fd ps [] ∧ L2H.FnH P w K mg base (CXm P w K) k fI fd ps (InitSp K C fld)
theorem st_raiseH {n fld : Str} {y : α} {k : Nat} {p1 p3 : Pos} (hot : L2H.HotC X) (hc : XC X.K X.mg n) (hi : XInitH X.prog X.w X.K X.mg X.base k n fld) (hr : L2H.RoomH (k + 1) X.A) (he : EV X Γ e y) (hE : E.ex Γ ⟨n, fld, .val i y⟩) (hg : autoParam (Gl X n) aRfl) (hdb : autoParam ((n == ("__debug__" : Str)) = false) aDec)
    (hs : autoParam (starEach [e] X.env = (false, eval e X.env) :: starEach [] X.env) aStar) (hpl : autoParam ((backTo p1 (starEach [] X.env)).any (·.1) = false) aPl) :
    ST X (.Raise (some (.Call (.Name n p) [e] [] p1)) none p3 :: rest) Γ E := fun B F H σ D L ed => by
  obtain ⟨C, xC, gC⟩ := hc
  obtain ⟨T, fI, fd, ps, iC, tI, hb, F1⟩ := hi.ex C xC.ns
  refine WP.cons (L2H.ps_raiseH hot takesWf (L2H.pmk5_oexH T iC tI F1 hr hot hb passLm hg gC paW hdb hs hpl).pmk) ?_
  refine ea_cons he ea_nil hs B F H σ _ L fun vs F1 H1 e1 r1 => ?_
  match vs, r1 with
  | [w], ⟨rw1, _⟩ =>
  refine ⟨by show 1 ≤ 1000; decide, fun a ha => ⟨a, w, rfl, upd_same, fun dx hdx hne => ⟨rfl, dx, [(fld, w)], upd_same, by rw [upd_ne hne, upd_same], ?_, ?_⟩⟩⟩
  · rw [upd_ne hne] at hdx; exact hdx
  · have hd1 : H1 dx = none := by rw [upd_ne hne] at hdx; exact hdx
    have s1 := (L.step e1).same
    have eq : upd (del (upd (upd (upd H1 a (exo a C none)) dx (exd dx [(fld, w)])) a (exo a C (some dx))) a) dx (.xd [(fld, w)]) = upd H1 dx (.xd [(fld, w)]) := by
      funext b
      by_cases hbd : b = dx
      · subst hbd; rw [upd_same, upd_same]
      · rw [upd_ne hbd, upd_ne hbd]
        by_cases hba : b = a
        · subst hba; rw [del_same, ha]
        · rw [del_ne hba, upd_ne hba, upd_ne hbd, upd_ne hba]
    rw [eq]
    have e2 := Ext.apart (o := .xd [(fld, w)]) s1 hd1
    exact ⟨⟨_, iC⟩, ed.exS (Same.refl F) hE L (e1.trans e2) ⟨C, rfl, xC.ns, dx, w, rfl, e1.hs.free hd1, s1.free hd1, upd_same, rw1⟩⟩
end
section
variable {P : Program} {w : World} {K : PySem.W.Frag} {mg : Str → Option Value} {base : Heap}
theorem XInitH.of {n fld qual : Str} {st : Stmt} {N : List Str} {x y : Str} (D : Dx K n fld qual st [x, y]) (sc : FnScope N [x, y] (defScope st)) (hN : N.length = 2)
    (body : ∀ (C fI : Addr) (T : OexC K C) (hno : PySem.W.findIn K (.ref C) fld = some none) (cdv : Value) (A : Around) (outer : List Env) (s : Shared) (H : Hp) (E : XK) (p : Addr × Obj) (a : Addr) (v : V) (Q : VK), H a = some (exo a C none) →
      (∀ dx, H dx = none → dx ≠ a → Q .non (upd (upd H dx (exd dx [(fld, v)])) a (exo a C (some dx)))) → WP (L2H.cxH (CXm P w K) P w K mg base N qual (defScope st) fI cdv A outer s H E p) (defBody st) { nx := fun _ H' => Q .non H', rt := Q } [some (.ref a), some v] H) :
    XInitH P w K mg base 1 n fld := by
  obtain ⟨C, fI, fd, hC, T, hno, iC, tI, F, hb⟩ := D.ex
  refine ⟨fun C' hC' => ?_⟩
  obtain rfl := ns_one hC hC'
  refine ⟨T, fI, fd, [x, y], iC, tI, hb, ?_⟩
  obtain ⟨c1, c2, c3, c4, c5, c6, cv, c7, c8, rfl, lk, hcd⟩ := F.ex
  refine L2H.fn_ofH (k := 0) lk hcd sc (fun vs H Q E ⟨a, v, e, _⟩ => by rw [e]; rfl) fun A outer s H vs Q E p hot hr h => ?_
  obtain ⟨a, v, rfl, ha, hq⟩ := h
  refine ⟨_, psW, ?_⟩
  have e1 : L2.start N [V.ref a, v] = [some (.ref a), some v] := by
    unfold L2.start
    rw [hN]
    rfl
  rw [e1]
  exact body C' fI T hno cv A outer s H E p a v Q ha hq
end
end Tw
namespace SetS
open PySem PySem.Spec PyProof.Rows
section
variable {prog : Program} {w : World} {A : Around} {E : Value → Shared → Prop} {s : Shared}
set_option maxHeartbeats 3200000 in
theorem makeL {l : Addr} {us : Array Value} {xs : List Str} {Q : Value → Shared → Prop} (led0 : A.handled = none) (isl : s.heap.IsList l us) (str : StrsAre us.toList xs) (room : xs.length < scanBound)
    (q : ∀ (h' : Heap) (tk : Nat), Told prog w s.heap.objs.size xs xs.length h' → (∀ b o, s.heap.get? b = some o → h'.get? b = some o) → Q (.ref s.heap.objs.size) { s with heap := h', toks := tk }) :
    wpAny (model prog w) A (call (.type "set") [.ref l]) Q E s := by
  obtain ⟨c0, rest, mro⟩ := PySem.F.called_set.mro
  have c1 := PySem.F.called_set.made
  have c2 := PySem.F.called_set.sub
  have c3 := PySem.F.called_set.notType
  have c4 := PySem.F.called_set.canCreate
  have c5 := PySem.F.typeCall_set_1 (.ref l)
  refine wpAny_call (codeAny_of_tree ?_)
  show wpAny _ _ (callAny (.type "set") _) _ _ _
  refine wpAny_pure ⟨Code.quiet_builtin _ (by decide +kernel), codeAny_builtin PySem.F.entry_type_call ?_⟩
  rw [Around.under_plain (weight_type_call_type "set" [.ref l] []) rfl]
  repeat (any_goals (first | assumption | wp_step))
  refine codeAny_mono (code_set_new_1 (.ref l) (E := E) (Q₁ := fun v z => ∃ b, v = .ref s.heap.objs.size ∧ z = { s with heap := s.heap.push (nude b) }) fun b => ⟨b, rfl, rfl⟩) fun r z hr => ?_
  cases r with
  | error e => exact hr
  | ok fl =>
    cases fl with
    | ret v =>
      obtain ⟨b, rfl, rfl⟩ := hr
      have here : (s.heap.push (nude b)).get? s.heap.objs.size = some (nude b) := Heap.get?_push_size _ rfl
      have kind : Shared.TypeIs { s with heap := s.heap.push (nude b) } (.ref s.heap.objs.size) "set" := ⟨_, here, rfl⟩
      have c6 := PySem.F.called_set.init.lookup
      have c7 := PySem.F.called_set.init.bind (.ref s.heap.objs.size)
      repeat (any_goals (first | assumption | wp_step))
      refine codeAny_mono (codeAny_call_builtin (R := wants (fun r z => r = .none ∧ ∃ h' tk, z = { s with heap := h', toks := tk } ∧ Told prog w s.heap.objs.size xs xs.length h' ∧ (∀ b o, s.heap.get? b = some o → h'.get? b = some o)) E)
        PySem.F.called_set.init.plain PySem.F.entry_set_init (check_set_init_1 kind ?_)) fun r z hr => ?_
      · obtain ⟨ob, ho, hcls, nn, hdat⟩ := isl
        obtain ⟨k1, k2, k3, k4⟩ := ob
        dsimp only at hcls hdat
        subst hcls hdat
        have lt0 : l < s.heap.objs.size := Heap.lt_size ho
        have ho2 : (s.heap.push (nude b)).get? l = some ⟨.type "list", k2, .seq us nn, k4⟩ := Heap.get?_push_of_some _ ho
        have isl2 : (s.heap.push (nude b)).IsList l us := ⟨_, ho2, rfl, nn, rfl⟩
        have n1 := PySem.F.sub_list_set
        have n2 := PySem.F.sub_list_frozenset
        have n3 : (Value.type "list" == Value.type "dict") = false := by decide
        unfold Builtin.«set.__init__» noKeywords Builtin.Frozenset.updateFrom
        generalize hI : pyIter = I
        wp_walk
        subst hI
        refine wpAny_pyIter_list isl2 ?_
        refine wpAny_bind (wpAny_runValue ?_)
        have led3 : A.in1.in1.in1.handled = none := by simp [led0]
        have many : xs.length = us.size := by rw [← StrsAre.len_eq str, Array.length_toList]
        have sz : (s.heap.push (nude b)).objs.size = s.heap.objs.size + 1 := Heap.size_push ..
        have neI : l ≠ (s.heap.push (nude b)).objs.size := fun z => by
          rw [sz] at z
          exact absurd lt0 (by rw [z]; exact Nat.not_lt.mpr (Nat.le_succ _))
        have apart : s.heap.objs.size ∉ [(s.heap.push (nude b)).objs.size, l] := fun hb => by
          simp only [List.mem_cons, List.not_mem_nil, or_false, sz] at hb
          rcases hb with z | z
          · exact absurd z (Nat.ne_of_lt (Nat.lt_succ_self _))
          · exact absurd lt0 (by rw [z]; exact Nat.lt_irrefl _)
        have each : ∀ i v, us[i]? = some v → ∃ u, v = Value.str (xs.getD i Str.empty) u := fun i v hv => SS.strs_at str i v (by rw [Array.getElem?_toList]; exact hv)
        have none' : Told prog w s.heap.objs.size xs 0 ((s.heap.push (nude b)).push { cls := .type "list_iterator", data := .fields #[.ref l, .int 0 0] }) := SetOf_congr ((setObjOf_fresh (knd := strKind prog w) b).setOf (Heap.get?_push_of_some _ here) (by unfold scanBound; omega)) (fun _ => rfl) rfl
        refine fill xs (many ▸ (Walks.list led3 _ l neI us).toS) apart room each _ 0 _ (Nat.zero_add _) ⟨⟨_, Heap.get?_push_size _ rfl, rfl, rfl⟩, isl2.push _⟩ none' fun z m T => ?_
        obtain ⟨h', g', d', tk', os'⟩ := z
        obtain rfl : g' = s.gens := m.gens
        obtain rfl : d' = s.drawn := m.drawn
        obtain rfl : os' = s.os := m.os
        refine wpAny_pure (M := model prog w) ?_
        refine wpAny_pure (M := model prog w) ⟨rfl, h', tk', rfl, T, fun b' o' e => m.heap b' o' ?_ (Heap.get?_push_of_some _ (Heap.get?_push_of_some _ e))⟩
        have lt := Heap.lt_size e
        simp only [List.mem_cons, List.not_mem_nil, or_false, not_or, sz]
        exact ⟨Nat.ne_of_lt lt, Nat.ne_of_lt (Nat.lt_succ_of_lt lt)⟩
      · cases r with
        | error e => exact hr
        | ok fl =>
          cases fl with
          | ret v =>
            obtain ⟨rfl, h', tk, rfl, T, keep⟩ := hr
            repeat (any_goals (first | assumption | wp_step))
            exact q _ _ T keep
          | _ => exact hr.elim
    | _ => exact hr.elim
end
end SetS
namespace L2
open PySem PySem.Spec PyProof.Rows
noncomputable def tLenSetL (K : PySem.W.Frag) (ta : TE) : TE := fun σ H Q => ta σ H fun v H1 => ∃ (l : Addr) (xs : List Str), v = .ref l ∧ SqL K H1 l (xs.map V.str) ∧ xs.length < scanBound ∧ Q (.int (SetS.cnt xs xs.length : Nat)) H1
section
variable {X : Cx}
theorem pe_lenSetL {a : Expr} {ta : TE} {p p2 q pos : Pos} (calm : X.calm = true) (g1 : Gl X "len") (m1 : X.mg "len" = none) (g2 : Gl X "set") (m2 : X.mg "set" = none) (ha : PE X a ta)
    (st : autoParam (starEach [a] X.env = (false, eval a X.env) :: starEach [] X.env) Tw.aRfl) : PE X (.Call (.Name "len" p) [.Call (.Name "set" p2) [a] [] q] [] pos) (tLenSetL X.K ta) := by
  refine ⟨fun pins s σ H Q I h => Call_ (ld_blt I g1 m1 boot_len (callWith_builtin1 (args_cons ?_ rfl) rfl rfl))⟩
  refine Call_ (ld_blt I g2 m2 boot_set (callWith_type1 (args_cons (thn (ha.run pins s σ H _ I h) fun v z ⟨y, H1, I1, r1, l, xs, ex, hq, room, q1⟩ => args_nil ?_) st) st rfl))
  subst ex
  cases r1
  obtain ⟨its, r, pl, hz⟩ := I1.list hq
  refine SetS.makeL (I1.ok.hd calm) pl.isList (by simpa using strsAre_of r) room fun h' tk T keep => args_nil ?_
  obtain ⟨o, es, ep, tb, at', exact', data, _, _, _, fit, many⟩ := T
  have small : SetS.cnt xs xs.length < scanBound := Nat.lt_of_le_of_lt (SetS.cnt_le _ _) room
  have I2 : Inv X pins σ H1 { z with heap := h', toks := tk } := I1.kept keep
  exact call_len_set at' exact' data fit (by rw [many]; unfold scanBound at small; omega) ⟨.int (SetS.cnt xs xs.length : Nat), H1, I2.tok _, ⟨_, by rw [many]⟩, q1⟩
end
end L2
namespace Tw
open PySem PySem.Spec PyProof.Rows L2 TL
noncomputable def dedT : List Tx → List Tx → List Tx
  | met, [] => met
  | met, x :: xs => dedT (if x ∈ met then met else met ++ [x]) xs
theorem dedT_snoc : ∀ (xs met : List Tx) (x : Tx), dedT met (xs ++ [x]) = if x ∈ dedT met xs then dedT met xs else dedT met xs ++ [x]
  | [], met, x => rfl
  | y :: xs, met, x => dedT_snoc xs _ x
theorem dedT_mem {y : Tx} : ∀ {xs met : List Tx}, y ∈ dedT met xs ↔ y ∈ met ∨ y ∈ xs
  | [], met => by unfold dedT; simp
  | x :: xs, met => by
    unfold dedT
    rw [dedT_mem]
    by_cases h : x ∈ met
    · rw [if_pos h, List.mem_cons]
      constructor
      · rintro (a | a)
        · exact .inl a
        · exact .inr (.inr a)
      · rintro (a | a | a)
        · exact .inl a
        · rw [a]; exact .inl h
        · exact .inr a
    · rw [if_neg h, List.mem_append, List.mem_singleton, List.mem_cons, or_assoc]
theorem dedT_nodup : ∀ {xs met : List Tx}, met.Nodup → (dedT met xs).Nodup
  | [], _, h => h
  | x :: xs, met, h => by
    unfold dedT
    refine dedT_nodup ?_
    split
    · exact h
    · rename_i hx
      rw [List.nodup_append]
      refine ⟨h, by simp, fun a ha b hb e => ?_⟩
      rw [List.mem_singleton.mp hb] at e
      exact hx (e ▸ ha)
theorem cnt_ded (xs : List Tx) : ∀ i, i ≤ xs.length → SetS.cnt (xs.map sx) i = (dedT [] (xs.take i)).length
  | 0, _ => rfl
  | i + 1, h => by
    have hx : xs[i]? = some xs[i] := List.getElem?_eq_getElem h
    have hg : (xs.map sx).getD i Str.empty = sx xs[i] := by
      rw [List.getD_eq_getElem?_getD, List.getElem?_map, hx]; rfl
    have ha : ((xs.map sx).take i).any (· == sx xs[i]) = decide (xs[i] ∈ xs.take i) := by
      rw [← List.map_take, List.any_map, Bool.eq_iff_iff, List.any_eq_true, decide_eq_true_eq]
      constructor
      · rintro ⟨y, hy, e⟩
        have e : (sx y == sx xs[i]) = true := e
        have := congrArg tl (eq_of_beq e)
        rw [tl_sx, tl_sx] at this
        rw [← this]; exact hy
      · intro hm
        exact ⟨_, hm, beq_self_eq_true (sx xs[i])⟩
    unfold SetS.cnt
    rw [hg, ha, cnt_ded xs i (by omega), List.take_add_one, hx, Option.toList_some, dedT_snoc]
    by_cases hm : xs[i] ∈ xs.take i
    · rw [if_pos (decide_eq_true hm), if_pos (dedT_mem.mpr (.inr hm))]
    · rw [if_neg (by rw [decide_eq_false hm]; decide), if_neg fun z => (dedT_mem.mp z).elim (fun z => (List.not_mem_nil z).elim) hm, List.length_append]
      rfl
section
variable {X : Cx} {Γ : List Slot} {pos p p2 : Pos} {e : Expr}
theorem ev_lenSetL {xs : List Tx} {q0 : Pos} (m1 : X.mg "len" = none) (m2 : X.mg "set" = none) (h : EV X Γ e xs) (hz : xs.length < 4000) (g1 : autoParam (Gl X "len") aRfl) (g2 : autoParam (Gl X "set") aRfl) (hc : autoParam (X.calm = true) aRfl) (hs : autoParam (starEach [e] X.env = (false, eval e X.env) :: starEach [] X.env) aStar) :
    EV X Γ (.Call (.Name "len" p) [.Call (.Name "set" p2) [e] [] q0] [] pos) (((dedT [] xs).length : Nat) : Int) := fun B F H σ Q L q =>
  WE.of (pe_lenSetL hc g1 m1 g2 m2 peW hs) (h B F H σ _ L fun v F1 H1 e1 r1 => by
    obtain ⟨ad, vs, rfl, ha, pr⟩ := r1
    have hv := Rps.strs pr
    subst hv
    refine ⟨ad, xs.map sx, rfl, sq_of (L.step e1).same ha, by rw [List.length_map]; unfold scanBound; omega, ?_⟩
    have e3 := cnt_ded xs xs.length (Nat.le_refl _)
    rw [List.take_length] at e3
    rw [List.length_map, e3]
    exact q _ F1 H1 e1 rfl)
end
end Tw
namespace Law
open PySem PySem.Spec PyProof.Rows L2 TL Tw
noncomputable def topS (i : Nat) : Stmt := PySem.Challenge.pw_quiltlaw_k13_grammar_read.main.body.getD i (.Pass ⟨0, 0, 0, 0⟩)
noncomputable def clsS (i j : Nat) : Stmt := clsBody (topS i) j
noncomputable abbrev s_wall : Stmt := topS 0
noncomputable abbrev s_beside : Stmt := topS 9
noncomputable abbrev s_above : Stmt := topS 10
noncomputable abbrev s_quarter : Stmt := topS 13
noncomputable abbrev s_mirrored : Stmt := topS 14
noncomputable abbrev s_turned : Stmt := topS 15
noncomputable abbrev s_after : Stmt := topS 16
noncomputable abbrev s_back : Stmt := topS 17
noncomputable abbrev s_is_name : Stmt := topS 23
noncomputable abbrev N_is_name : List Str := ["text", "sign"]
theorem sc_is_name : FnScope N_is_name ["text"] (defScope s_is_name) := ⟨rfl, rfl, rfl, by decide +kernel, rfl, by decide +kernel, by decide +kernel⟩
noncomputable abbrev bk_is_name := @L2.blkOk_by N_is_name (defScope s_is_name)
noncomputable abbrev s_asked_name : Stmt := topS 24
noncomputable abbrev N_asked_name : List Str := ["text"]
theorem sc_asked_name : FnScope N_asked_name ["text"] (defScope s_asked_name) := ⟨rfl, rfl, rfl, by decide +kernel, rfl, by decide +kernel, by decide +kernel⟩
noncomputable abbrev s_turned_pair : Stmt := topS 27
noncomputable abbrev s_are_signs : Stmt := topS 35
noncomputable abbrev N_are_signs : List Str := ["text", "sign"]
theorem sc_are_signs : FnScope N_are_signs ["text"] (defScope s_are_signs) := ⟨rfl, rfl, rfl, by decide +kernel, rfl, by decide +kernel, by decide +kernel⟩
noncomputable abbrev bk_are_signs := @L2.blkOk_by N_are_signs (defScope s_are_signs)
noncomputable abbrev s_names_met : Stmt := topS 36
noncomputable abbrev N_names_met : List Str := ["start", "rules", "met", "rule", "name"]
theorem sc_names_met : FnScope N_names_met ["start", "rules"] (defScope s_names_met) := ⟨rfl, rfl, rfl, by decide +kernel, rfl, by decide +kernel, by decide +kernel⟩
noncomputable abbrev s_asked_rules : Stmt := topS 37
noncomputable abbrev N_asked_rules : List Str := ["signs", "rules", "k", "rule"]
theorem sc_asked_rules : FnScope N_asked_rules ["signs", "rules"] (defScope s_asked_rules) := ⟨rfl, rfl, rfl, by decide +kernel, rfl, by decide +kernel, by decide +kernel⟩
noncomputable abbrev s_number_in : Stmt := topS 42
noncomputable abbrev N_number_in : List Str := ["text", "figures"]
theorem sc_number_in : FnScope N_number_in ["text", "figures"] (defScope s_number_in) := ⟨rfl, rfl, rfl, by decide +kernel, rfl, by decide +kernel, by decide +kernel⟩
noncomputable abbrev s_read_rule : Stmt := topS 43
noncomputable abbrev N_read_rule : List Str := ["text", "words", "name", "cost", "rest"]
theorem sc_read_rule : FnScope N_read_rule ["text"] (defScope s_read_rule) := ⟨rfl, rfl, rfl, by decide +kernel, rfl, by decide +kernel, by decide +kernel⟩
noncomputable abbrev s_read_row : Stmt := topS 44
noncomputable abbrev N_read_row : List Str := ["rows", "number", "rule"]
theorem sc_read_row : FnScope N_read_row ["rows", "number"] (defScope s_read_row) := ⟨rfl, rfl, rfl, by decide +kernel, rfl, by decide +kernel, by decide +kernel⟩
noncomputable abbrev s_read_grammar : Stmt := topS 45
noncomputable abbrev N_read_grammar : List Str := ["text", "rows", "number", "head", "rules"]
theorem sc_read_grammar : FnScope N_read_grammar ["text"] (defScope s_read_grammar) := ⟨rfl, rfl, rfl, by decide +kernel, rfl, by decide +kernel, by decide +kernel⟩
noncomputable abbrev bk_read_grammar := @L2.blkOk_by N_read_grammar (defScope s_read_grammar)
noncomputable abbrev s_law_mix : Stmt := topS 47
noncomputable abbrev N_law_mix : List Str := ["_law_cell_here", "_law_k", "_law_mixed"]
theorem sc_law_mix : FnScope N_law_mix ["_law_cell_here", "_law_k"] (defScope s_law_mix) := ⟨rfl, rfl, rfl, by decide +kernel, rfl, by decide +kernel, by decide +kernel⟩
noncomputable abbrev s_law_cell : Stmt := topS 48
noncomputable abbrev N_law_cell : List Str := ["_law_script", "_law_k"]
theorem sc_law_cell : FnScope N_law_cell ["_law_script", "_law_k"] (defScope s_law_cell) := ⟨rfl, rfl, rfl, by decide +kernel, rfl, by decide +kernel, by decide +kernel⟩
noncomputable abbrev s_law_whole : Stmt := topS 49
noncomputable abbrev N_law_whole : List Str := ["_law_x"]
theorem sc_law_whole : FnScope N_law_whole ["_law_x"] (defScope s_law_whole) := ⟨rfl, rfl, rfl, by decide +kernel, rfl, by decide +kernel, by decide +kernel⟩
noncomputable abbrev s_law_pool : Stmt := topS 50
noncomputable abbrev N_law_pool : List Str := ["_law_cell_here", "_law_many", "_law_letters", "_law_size", "_law_base", "_law_at", "_law_step", "_law_k"]
theorem sc_law_pool : FnScope N_law_pool ["_law_cell_here", "_law_many"] (defScope s_law_pool) := ⟨rfl, rfl, rfl, by decide +kernel, rfl, by decide +kernel, by decide +kernel⟩
noncomputable abbrev bk_law_pool := @L2.blkOk_by N_law_pool (defScope s_law_pool)
noncomputable abbrev s_law_signs : Stmt := topS 51
noncomputable abbrev N_law_signs : List Str := ["_law_cell_here", "_law_letters", "_law_step", "_law_k"]
theorem sc_law_signs : FnScope N_law_signs ["_law_cell_here"] (defScope s_law_signs) := ⟨rfl, rfl, rfl, by decide +kernel, rfl, by decide +kernel, by decide +kernel⟩
noncomputable abbrev bk_law_signs := @L2.blkOk_by N_law_signs (defScope s_law_signs)
noncomputable abbrev s_law_row : Stmt := topS 52
noncomputable abbrev N_law_row : List Str := ["_law_cell_here", "_law_names", "_law_signs_here", "_law_begun", "_law_one"]
theorem sc_law_row : FnScope N_law_row ["_law_cell_here", "_law_names", "_law_signs_here"] (defScope s_law_row) := ⟨rfl, rfl, rfl, by decide +kernel, rfl, by decide +kernel, by decide +kernel⟩
noncomputable abbrev s_law_spoilt : Stmt := topS 53
noncomputable abbrev N_law_spoilt : List Str := ["_law_rows", "_law_cell_here", "_law_kind", "_law_at", "_law_row_here"]
theorem sc_law_spoilt : FnScope N_law_spoilt ["_law_rows", "_law_cell_here"] (defScope s_law_spoilt) := ⟨rfl, rfl, rfl, by decide +kernel, rfl, by decide +kernel, by decide +kernel⟩
noncomputable abbrev s_law_is_name : Stmt := topS 54
noncomputable abbrev N_law_is_name : List Str := ["_law_text", "_law_sign"]
theorem sc_law_is_name : FnScope N_law_is_name ["_law_text"] (defScope s_law_is_name) := ⟨rfl, rfl, rfl, by decide +kernel, rfl, by decide +kernel, by decide +kernel⟩
noncomputable abbrev bk_law_is_name := @L2.blkOk_by N_law_is_name (defScope s_law_is_name)
noncomputable abbrev s_law_parts : Stmt := topS 55
noncomputable abbrev N_law_parts : List Str := ["_law_text", "_law_head", "_law_body", "_law_words"]
theorem sc_law_parts : FnScope N_law_parts ["_law_text"] (defScope s_law_parts) := ⟨rfl, rfl, rfl, by decide +kernel, rfl, by decide +kernel, by decide +kernel⟩
noncomputable abbrev s_law_bad_row : Stmt := topS 56
noncomputable abbrev N_law_bad_row : List Str := ["_law_rows", "_law_at", "_law_row_here"]
theorem sc_law_bad_row : FnScope N_law_bad_row ["_law_rows"] (defScope s_law_bad_row) := ⟨rfl, rfl, rfl, by decide +kernel, rfl, by decide +kernel, by decide +kernel⟩
noncomputable abbrev s_law_fault : Stmt := topS 57
noncomputable abbrev N_law_fault : List Str := ["_law_rows", "_law_signs_here", "_law_start", "_law_letters", "_law_met", "_law_k", "_law_parts_here", "_law_x", "_law_name"]
theorem sc_law_fault : FnScope N_law_fault ["_law_rows"] (defScope s_law_fault) := ⟨rfl, rfl, rfl, by decide +kernel, rfl, by decide +kernel, by decide +kernel⟩
noncomputable abbrev bk_law_fault := @L2.blkOk_by N_law_fault (defScope s_law_fault)
noncomputable abbrev s_law_read : Stmt := topS 58
noncomputable abbrev N_law_read : List Str := ["_law_text", "_law_refusal", "_law_found", "e"]
theorem sc_law_read : FnScope N_law_read ["_law_text"] (defScope s_law_read) := ⟨rfl, rfl, rfl, by decide +kernel, rfl, by decide +kernel, by decide +kernel⟩
noncomputable abbrev s_law : Stmt := topS 59
noncomputable abbrev N_law : List Str := ["_law_script", "_law_names", "_law_signs_here", "_law_rows", "_law_text", "_law_found", "_law_bad", "_law_fault_here", "_law_k", "_law_cell_here"]
theorem sc_law : FnScope N_law ["_law_script"] (defScope s_law) := ⟨rfl, rfl, rfl, by decide +kernel, rfl, by decide +kernel, by decide +kernel⟩
noncomputable abbrev bk_law := @L2.blkOk_by N_law (defScope s_law)
noncomputable abbrev s_Rule_init : Stmt := clsS 25 0
noncomputable abbrev N_Rule_init : List Str := ["self", "name", "cost"]
theorem sc_Rule_init : FnScope N_Rule_init ["self", "name", "cost"] (defScope s_Rule_init) := ⟨rfl, rfl, rfl, by decide +kernel, rfl, by decide +kernel, by decide +kernel⟩
noncomputable abbrev s_Rule_parts : Stmt := clsS 25 1
noncomputable abbrev N_Rule_parts : List Str := ["self"]
theorem sc_Rule_parts : FnScope N_Rule_parts ["self"] (defScope s_Rule_parts) := ⟨rfl, rfl, rfl, by decide +kernel, rfl, by decide +kernel, by decide +kernel⟩
noncomputable abbrev s_Rule_begun : Stmt := clsS 25 2
noncomputable abbrev N_Rule_begun : List Str := ["self"]
theorem sc_Rule_begun : FnScope N_Rule_begun ["self"] (defScope s_Rule_begun) := ⟨rfl, rfl, rfl, by decide +kernel, rfl, by decide +kernel, by decide +kernel⟩
noncomputable abbrev s_CellRule_init : Stmt := clsS 26 0
noncomputable abbrev N_CellRule_init : List Str := ["self", "name", "cost", "sign"]
theorem sc_CellRule_init : FnScope N_CellRule_init ["self", "name", "cost", "sign"] (defScope s_CellRule_init) := ⟨rfl, rfl, rfl, by decide +kernel, rfl, by decide +kernel, by decide +kernel⟩
noncomputable abbrev s_CellRule_told : Stmt := clsS 26 4
noncomputable abbrev N_CellRule_told : List Str := ["self"]
theorem sc_CellRule_told : FnScope N_CellRule_told ["self"] (defScope s_CellRule_told) := ⟨rfl, rfl, rfl, by decide +kernel, rfl, by decide +kernel, by decide +kernel⟩
noncomputable abbrev s_BesideRule_init : Stmt := clsS 28 0
noncomputable abbrev N_BesideRule_init : List Str := ["self", "name", "cost", "one", "other"]
theorem sc_BesideRule_init : FnScope N_BesideRule_init ["self", "name", "cost", "one", "other"] (defScope s_BesideRule_init) := ⟨rfl, rfl, rfl, by decide +kernel, rfl, by decide +kernel, by decide +kernel⟩
noncomputable abbrev s_BesideRule_parts : Stmt := clsS 28 1
noncomputable abbrev N_BesideRule_parts : List Str := ["self"]
theorem sc_BesideRule_parts : FnScope N_BesideRule_parts ["self"] (defScope s_BesideRule_parts) := ⟨rfl, rfl, rfl, by decide +kernel, rfl, by decide +kernel, by decide +kernel⟩
noncomputable abbrev s_BesideRule_told : Stmt := clsS 28 5
noncomputable abbrev N_BesideRule_told : List Str := ["self"]
theorem sc_BesideRule_told : FnScope N_BesideRule_told ["self"] (defScope s_BesideRule_told) := ⟨rfl, rfl, rfl, by decide +kernel, rfl, by decide +kernel, by decide +kernel⟩
noncomputable abbrev s_AboveRule_init : Stmt := clsS 29 0
noncomputable abbrev N_AboveRule_init : List Str := ["self", "name", "cost", "one", "other"]
theorem sc_AboveRule_init : FnScope N_AboveRule_init ["self", "name", "cost", "one", "other"] (defScope s_AboveRule_init) := ⟨rfl, rfl, rfl, by decide +kernel, rfl, by decide +kernel, by decide +kernel⟩
noncomputable abbrev s_AboveRule_parts : Stmt := clsS 29 1
noncomputable abbrev N_AboveRule_parts : List Str := ["self"]
theorem sc_AboveRule_parts : FnScope N_AboveRule_parts ["self"] (defScope s_AboveRule_parts) := ⟨rfl, rfl, rfl, by decide +kernel, rfl, by decide +kernel, by decide +kernel⟩
noncomputable abbrev s_AboveRule_told : Stmt := clsS 29 5
noncomputable abbrev N_AboveRule_told : List Str := ["self"]
theorem sc_AboveRule_told : FnScope N_AboveRule_told ["self"] (defScope s_AboveRule_told) := ⟨rfl, rfl, rfl, by decide +kernel, rfl, by decide +kernel, by decide +kernel⟩
noncomputable abbrev s_TurnRule_init : Stmt := clsS 30 0
noncomputable abbrev N_TurnRule_init : List Str := ["self", "name", "cost", "part", "turning"]
theorem sc_TurnRule_init : FnScope N_TurnRule_init ["self", "name", "cost", "part", "turning"] (defScope s_TurnRule_init) := ⟨rfl, rfl, rfl, by decide +kernel, rfl, by decide +kernel, by decide +kernel⟩
noncomputable abbrev s_TurnRule_parts : Stmt := clsS 30 1
noncomputable abbrev N_TurnRule_parts : List Str := ["self"]
theorem sc_TurnRule_parts : FnScope N_TurnRule_parts ["self"] (defScope s_TurnRule_parts) := ⟨rfl, rfl, rfl, by decide +kernel, rfl, by decide +kernel, by decide +kernel⟩
noncomputable abbrev s_TurnRule_told : Stmt := clsS 30 5
noncomputable abbrev N_TurnRule_told : List Str := ["self"]
theorem sc_TurnRule_told : FnScope N_TurnRule_told ["self"] (defScope s_TurnRule_told) := ⟨rfl, rfl, rfl, by decide +kernel, rfl, by decide +kernel, by decide +kernel⟩
noncomputable abbrev s_Grammar_init : Stmt := clsS 38 0
noncomputable abbrev N_Grammar_init : List Str := ["self", "signs", "start", "rules", "met"]
theorem sc_Grammar_init : FnScope N_Grammar_init ["self", "signs", "start", "rules"] (defScope s_Grammar_init) := ⟨rfl, rfl, rfl, by decide +kernel, rfl, by decide +kernel, by decide +kernel⟩
noncomputable abbrev s_Grammar_many : Stmt := clsS 38 3
noncomputable abbrev N_Grammar_many : List Str := ["self"]
theorem sc_Grammar_many : FnScope N_Grammar_many ["self"] (defScope s_Grammar_many) := ⟨rfl, rfl, rfl, by decide +kernel, rfl, by decide +kernel, by decide +kernel⟩
noncomputable abbrev s_Grammar_told : Stmt := clsS 38 6
noncomputable abbrev N_Grammar_told : List Str := ["self", "rows", "rule"]
theorem sc_Grammar_told : FnScope N_Grammar_told ["self"] (defScope s_Grammar_told) := ⟨rfl, rfl, rfl, by decide +kernel, rfl, by decide +kernel, by decide +kernel⟩
noncomputable abbrev bk_Grammar_told := @L2.blkOk_by N_Grammar_told (defScope s_Grammar_told)
noncomputable abbrev s_NoGrammar_init : Stmt := clsS 5 0
noncomputable abbrev N_NoGrammar_init : List Str := ["self", "why"]
theorem sc_NoGrammar_init : FnScope N_NoGrammar_init ["self", "why"] (defScope s_NoGrammar_init) := ⟨rfl, rfl, rfl, by decide +kernel, rfl, by decide +kernel, by decide +kernel⟩
noncomputable abbrev s_NoText_init : Stmt := clsS 6 0
noncomputable abbrev N_NoText_init : List Str := ["self", "row"]
theorem sc_NoText_init : FnScope N_NoText_init ["self", "row"] (defScope s_NoText_init) := ⟨rfl, rfl, rfl, by decide +kernel, rfl, by decide +kernel, by decide +kernel⟩
structure Txt (K : PySem.W.Frag) (mg : Str → Option Value) : Prop where
  b_ValueError : mg "ValueError" = none
  b_all : mg "all" = none
  b_any : mg "any" = none
  b_bool : mg "bool" = none
  b_enumerate : mg "enumerate" = none
  b_int : mg "int" = none
  b_isinstance : mg "isinstance" = none
  b_len : mg "len" = none
  b_list : mg "list" = none
  b_range : mg "range" = none
  b_reversed : mg "reversed" = none
  b_set : mg "set" = none
  b_str : mg "str" = none
  b_zip : mg "zip" = none
  c_MOST : ∃ t, mg "MOST" = some (.int 6 t)
  c_MIRROR : ∃ t, mg "MIRROR" = some (.int 4 t)
  c_CAPITALS : ∃ t, mg "CAPITALS" = some (.str (Str.ofString "ABCDEFGHIJKLMNOPQRSTUVWXYZ") t)
  c_SMALL : ∃ t, mg "SMALL" = some (.str (Str.ofString "abcdefghijklmnopqrstuvwxyz") t)
  c_MOST_LETTERS : ∃ t, mg "MOST_LETTERS" = some (.int 4 t)
  c_MOST_COST : ∃ t, mg "MOST_COST" = some (.int 9 t)
  c_MOST_SIGNS : ∃ t, mg "MOST_SIGNS" = some (.int 4 t)
  c_MOST_RULES : ∃ t, mg "MOST_RULES" = some (.int 24 t)
  c_MOST_NAMES : ∃ t, mg "MOST_NAMES" = some (.int 8 t)
  c_COSTS : ∃ t, mg "COSTS" = some (.str (Str.ofString "123456789") t)
  c_TURNINGS : ∃ t, mg "TURNINGS" = some (.str (Str.ofString "01234567") t)
  x_QuiltError : XC K mg "QuiltError"
  x_NoFit : XC K mg "NoFit"
  x_NoRule : XC K mg "NoRule"
  x_NoGrammar : XC K mg "NoGrammar"
  x_NoText : XC K mg "NoText"
  p_NoRule : XPlain K "NoRule"
  p_NoFit : XPlain K "NoFit"
  i_NoGrammar : Dx K "NoGrammar" "why" "NoGrammar.__init__" s_NoGrammar_init ["self", "why"]
  i_NoText : Dx K "NoText" "row" "NoText.__init__" s_NoText_init ["self", "row"]
  q_QuiltError : ∃ D, XBase K mg "QuiltError" D
  s_NoRule_NoRule : XSub K "NoRule" "NoRule" true
  s_NoRule_QuiltError : XSub K "NoRule" "QuiltError" true
  s_NoRule_NoText : XSub K "NoRule" "NoText" false
  s_NoRule_NoGrammar : XSub K "NoRule" "NoGrammar" false
  t_NoRule_ValueError : XSubT K "NoRule" "ValueError" true
  s_NoFit_NoRule : XSub K "NoFit" "NoRule" false
  s_NoFit_QuiltError : XSub K "NoFit" "QuiltError" true
  s_NoFit_NoText : XSub K "NoFit" "NoText" false
  s_NoFit_NoGrammar : XSub K "NoFit" "NoGrammar" false
  t_NoFit_ValueError : XSubT K "NoFit" "ValueError" true
  s_NoGrammar_NoRule : XSub K "NoGrammar" "NoRule" false
  s_NoGrammar_QuiltError : XSub K "NoGrammar" "QuiltError" true
  s_NoGrammar_NoText : XSub K "NoGrammar" "NoText" false
  s_NoGrammar_NoGrammar : XSub K "NoGrammar" "NoGrammar" true
  t_NoGrammar_ValueError : XSubT K "NoGrammar" "ValueError" true
  s_NoText_NoRule : XSub K "NoText" "NoRule" false
  s_NoText_QuiltError : XSub K "NoText" "QuiltError" true
  s_NoText_NoText : XSub K "NoText" "NoText" true
  s_NoText_NoGrammar : XSub K "NoText" "NoGrammar" false
  t_NoText_ValueError : XSubT K "NoText" "ValueError" true
  o_Rule : OC K mg "Rule"
  o_CellRule : OC K mg "CellRule"
  o_BesideRule : OC K mg "BesideRule"
  o_AboveRule : OC K mg "AboveRule"
  o_TurnRule : OC K mg "TurnRule"
  o_Grammar : OC K mg "Grammar"
  a_Rule_name : NoA K "Rule" "name"
  a_Rule_cost : NoA K "Rule" "cost"
  m_Rule_init : Dm K "Rule" "__init__" "Rule.__init__" s_Rule_init ["self", "name", "cost"]
  a_CellRule_sign : NoA K "CellRule" "sign"
  a_CellRule_name : NoA K "CellRule" "name"
  a_CellRule_cost : NoA K "CellRule" "cost"
  m_CellRule_init : Dm K "CellRule" "__init__" "CellRule.__init__" s_CellRule_init ["self", "name", "cost", "sign"]
  m_CellRule_told : Dm K "CellRule" "told" "CellRule.told" s_CellRule_told ["self"]
  m_CellRule_parts : Dm K "CellRule" "parts" "Rule.parts" s_Rule_parts ["self"]
  m_CellRule_begun : Dm K "CellRule" "begun" "Rule.begun" s_Rule_begun ["self"]
  a_BesideRule_one : NoA K "BesideRule" "one"
  a_BesideRule_other : NoA K "BesideRule" "other"
  a_BesideRule_name : NoA K "BesideRule" "name"
  a_BesideRule_cost : NoA K "BesideRule" "cost"
  m_BesideRule_init : Dm K "BesideRule" "__init__" "BesideRule.__init__" s_BesideRule_init ["self", "name", "cost", "one", "other"]
  m_BesideRule_parts : Dm K "BesideRule" "parts" "BesideRule.parts" s_BesideRule_parts ["self"]
  m_BesideRule_told : Dm K "BesideRule" "told" "BesideRule.told" s_BesideRule_told ["self"]
  m_BesideRule_begun : Dm K "BesideRule" "begun" "Rule.begun" s_Rule_begun ["self"]
  a_AboveRule_one : NoA K "AboveRule" "one"
  a_AboveRule_other : NoA K "AboveRule" "other"
  a_AboveRule_name : NoA K "AboveRule" "name"
  a_AboveRule_cost : NoA K "AboveRule" "cost"
  m_AboveRule_init : Dm K "AboveRule" "__init__" "AboveRule.__init__" s_AboveRule_init ["self", "name", "cost", "one", "other"]
  m_AboveRule_parts : Dm K "AboveRule" "parts" "AboveRule.parts" s_AboveRule_parts ["self"]
  m_AboveRule_told : Dm K "AboveRule" "told" "AboveRule.told" s_AboveRule_told ["self"]
  m_AboveRule_begun : Dm K "AboveRule" "begun" "Rule.begun" s_Rule_begun ["self"]
  a_TurnRule_part : NoA K "TurnRule" "part"
  a_TurnRule_turning : NoA K "TurnRule" "turning"
  a_TurnRule_name : NoA K "TurnRule" "name"
  a_TurnRule_cost : NoA K "TurnRule" "cost"
  m_TurnRule_init : Dm K "TurnRule" "__init__" "TurnRule.__init__" s_TurnRule_init ["self", "name", "cost", "part", "turning"]
  m_TurnRule_parts : Dm K "TurnRule" "parts" "TurnRule.parts" s_TurnRule_parts ["self"]
  m_TurnRule_told : Dm K "TurnRule" "told" "TurnRule.told" s_TurnRule_told ["self"]
  m_TurnRule_begun : Dm K "TurnRule" "begun" "Rule.begun" s_Rule_begun ["self"]
  a_Grammar_signs : NoA K "Grammar" "signs"
  a_Grammar_start : NoA K "Grammar" "start"
  a_Grammar_kept_rules : NoA K "Grammar" "kept_rules"
  a_Grammar_kept_names : NoA K "Grammar" "kept_names"
  m_Grammar_init : Dm K "Grammar" "__init__" "Grammar.__init__" s_Grammar_init ["self", "signs", "start", "rules"]
  m_Grammar_many : Dm K "Grammar" "many" "Grammar.many" s_Grammar_many ["self"]
  m_Grammar_told : Dm K "Grammar" "told" "Grammar.told" s_Grammar_told ["self"]
  z_Rule : CInit K "Rule"
  u_CellRule_CellRule : OSub K "CellRule" "CellRule" true
  u_CellRule_Grammar : OSub K "CellRule" "Grammar" false
  u_BesideRule_CellRule : OSub K "BesideRule" "CellRule" false
  u_BesideRule_Grammar : OSub K "BesideRule" "Grammar" false
  u_AboveRule_CellRule : OSub K "AboveRule" "CellRule" false
  u_AboveRule_Grammar : OSub K "AboveRule" "Grammar" false
  u_TurnRule_CellRule : OSub K "TurnRule" "CellRule" false
  u_TurnRule_Grammar : OSub K "TurnRule" "Grammar" false
  u_Grammar_CellRule : OSub K "Grammar" "CellRule" false
  u_Grammar_Grammar : OSub K "Grammar" "Grammar" true
  f_wall : Df K mg "_wall" s_wall ["k"]
  f_beside : Df K mg "beside" s_beside ["one", "other"]
  f_above : Df K mg "above" s_above ["one", "other"]
  f_quarter : Df K mg "quarter" s_quarter ["picture"]
  f_mirrored : Df K mg "mirrored" s_mirrored ["picture"]
  f_turned : Df K mg "turned" s_turned ["picture", "t"]
  f_after : Df K mg "after" s_after ["t", "u"]
  f_back : Df K mg "back" s_back ["t"]
  f_is_name : Df K mg "is_name" s_is_name ["text"]
  f_asked_name : Df K mg "asked_name" s_asked_name ["text"]
  f_turned_pair : Df K mg "turned_pair" s_turned_pair ["name", "cost", "names", "t"]
  f_are_signs : Df K mg "are_signs" s_are_signs ["text"]
  f_names_met : Df K mg "names_met" s_names_met ["start", "rules"]
  f_asked_rules : Df K mg "asked_rules" s_asked_rules ["signs", "rules"]
  f_number_in : Df K mg "number_in" s_number_in ["text", "figures"]
  f_read_rule : Df K mg "read_rule" s_read_rule ["text"]
  f_read_row : Df K mg "read_row" s_read_row ["rows", "number"]
  f_read_grammar : Df K mg "read_grammar" s_read_grammar ["text"]
  f_law_mix : Df K mg "_law_mix" s_law_mix ["_law_cell_here", "_law_k"]
  f_law_cell : Df K mg "_law_cell" s_law_cell ["_law_script", "_law_k"]
  f_law_whole : Df K mg "_law_whole" s_law_whole ["_law_x"]
  f_law_pool : Df K mg "_law_pool" s_law_pool ["_law_cell_here", "_law_many"]
  f_law_signs : Df K mg "_law_signs" s_law_signs ["_law_cell_here"]
  f_law_row : Df K mg "_law_row" s_law_row ["_law_cell_here", "_law_names", "_law_signs_here"]
  f_law_spoilt : Df K mg "_law_spoilt" s_law_spoilt ["_law_rows", "_law_cell_here"]
  f_law_is_name : Df K mg "_law_is_name" s_law_is_name ["_law_text"]
  f_law_parts : Df K mg "_law_parts" s_law_parts ["_law_text"]
  f_law_bad_row : Df K mg "_law_bad_row" s_law_bad_row ["_law_rows"]
  f_law_fault : Df K mg "_law_fault" s_law_fault ["_law_rows"]
  f_law_read : Df K mg "_law_read" s_law_read ["_law_text"]
section
variable {P : Program} {w : World} {K : PySem.W.Frag} {mg : Str → Option Value} {base : Heap}
theorem init_NoGrammar (T : Txt K mg) : XInit P w K mg base 1 "NoGrammar" "why" := XInit.of T.i_NoGrammar sc_NoGrammar_init rfl fun C fI TC hno cdv A outer s H E a v Q ha hq => by
  obtain ⟨D, bD⟩ := T.q_QuiltError
  exact WP.cons (ps_expr (pe_qinit bD (pa_cons (pe_var (i := 0) rfl (.inl rfl)) (pa_cons pe_str pa_nil))) rfl) ⟨_, rfl, a, C, _, rfl, by decide, TC, ha, WP.cons (ps_ost (pe_var (i := 0) rfl (.inl rfl)) (pe_var (i := 1) rfl (.inl rfl)) rfl) ⟨v, rfl, _, rfl, a, C, rfl, TC, hno, .inl ⟨ha, fun dx h1 h2 => WP.of pss_nil (hq dx h1 h2)⟩⟩⟩
theorem init_NoText (T : Txt K mg) : XInit P w K mg base 1 "NoText" "row" := XInit.of T.i_NoText sc_NoText_init rfl fun C fI TC hno cdv A outer s H E a v Q ha hq => by
  obtain ⟨D, bD⟩ := T.q_QuiltError
  exact WP.cons (ps_expr (pe_qinit bD (pa_cons (pe_var (i := 0) rfl (.inl rfl)) (pa_cons pe_str pa_nil))) rfl) ⟨_, rfl, a, C, _, rfl, by decide, TC, ha, WP.cons (ps_ost (pe_var (i := 0) rfl (.inl rfl)) (pe_var (i := 1) rfl (.inl rfl)) rfl) ⟨v, rfl, _, rfl, a, C, rfl, TC, hno, .inl ⟨ha, fun dx h1 h2 => WP.of pss_nil (hq dx h1 h2)⟩⟩⟩
end
noncomputable abbrev capTx : Tx := tx "ABCDEFGHIJKLMNOPQRSTUVWXYZ"
noncomputable abbrev smallTx : Tx := tx "abcdefghijklmnopqrstuvwxyz"
noncomputable def isName (x : Tx) : Bool := (decide (1 ≤ x.length) && decide (x.length ≤ 4)) && x.all fun c => decide (c ∈ capTx)
theorem isName_len {x : Tx} (h : isName x = true) : x.length ≤ 4 := by
  unfold isName at h
  simp only [Bool.and_eq_true, decide_eq_true_eq] at h
  exact h.1.2
set_option genInjectivity true in
inductive RuleD where
  | cell (name : Tx) (cost : Int) (sign : Tx)
  | beside (name : Tx) (cost : Int) (one other : Tx)
  | above (name : Tx) (cost : Int) (one other : Tx)
  | turn (name : Tx) (cost : Int) (part : Tx) (turning : Int)
  deriving DecidableEq
noncomputable def RuleD.cls : RuleD → Str
  | .cell .. => "CellRule"
  | .beside .. => "BesideRule"
  | .above .. => "AboveRule"
  | .turn .. => "TurnRule"
noncomputable def RuleD.name : RuleD → Tx
  | .cell n _ _ => n
  | .beside n _ _ _ => n
  | .above n _ _ _ => n
  | .turn n _ _ _ => n
noncomputable def RuleD.cost : RuleD → Int
  | .cell _ c _ => c
  | .beside _ c _ _ => c
  | .above _ c _ _ => c
  | .turn _ c _ _ => c
noncomputable def RuleD.parts : RuleD → List Tx
  | .cell .. => []
  | .beside _ _ a b => [a, b]
  | .above _ _ a b => [a, b]
  | .turn _ _ a _ => [a]
noncomputable def RuleD.begun (r : RuleD) : Tx := r.name ++ tx " " ++ strI r.cost ++ tx ": "
noncomputable def RuleD.told (r : RuleD) : Tx := match r with
  | .cell _ _ s => r.begun ++ s
  | .beside _ _ a b => r.begun ++ a ++ tx " | " ++ b
  | .above _ _ a b => r.begun ++ a ++ tx " / " ++ b
  | .turn _ _ a t => r.begun ++ a ++ tx " turned " ++ strI t
noncomputable def RuleD.flds : RuleD → List (Str × Slot)
  | .cell n c s => [("name", vl n), ("cost", vl c), ("sign", vl s)]
  | .beside n c a b => [("name", vl n), ("cost", vl c), ("one", vl a), ("other", vl b)]
  | .above n c a b => [("name", vl n), ("cost", vl c), ("one", vl a), ("other", vl b)]
  | .turn n c a t => [("name", vl n), ("cost", vl c), ("part", vl a), ("turning", vl t)]
noncomputable instance : Inst RuleD := ⟨RuleD.cls, RuleD.flds⟩
noncomputable def costOk (c : Int) : Bool := decide (1 ≤ c) && decide (c ≤ 9)
noncomputable def signOk (s : Tx) : Bool := decide (s.length = 1) && s.all fun c => decide (c ∈ smallTx)
noncomputable def RuleD.good : RuleD → Bool
  | .cell n c s => signOk s && (costOk c && isName n)
  | .beside n c a b => (costOk c && isName n) && (isName a && isName b)
  | .above n c a b => (costOk c && isName n) && (isName a && isName b)
  | .turn n c a t => (decide (0 ≤ t) && decide (t ≤ 7)) && ((costOk c && isName n) && isName a)
noncomputable def NoRule : Exn := ⟨"NoRule", "", .no⟩
noncomputable def nameS : Tw.Spec := fun A P _ => ∃ (x : Tx), A = [vl x] ∧ x.length ≤ 1000 ∧ P (rv (isName x))
noncomputable def askedS : Tw.Spec := fun A P R => ∃ (x : Tx), A = [vl x] ∧ x.length ≤ 1000 ∧ (isName x = true → P (rv x)) ∧ (isName x = false → R NoRule)
noncomputable def ruleInitS (K : PySem.W.Frag) : Tw.Spec := fun A P R => ∃ (C a dx : Addr) (n : Tx) (c : Int), A = [.own (ownI C a dx []), vl n, vl c] ∧ Cls K C ∧ NoAttr K C "name" ∧ NoAttr K C "cost" ∧ n.length ≤ 1000 ∧
  ((costOk c && isName n) = true → P (.chg repUnit () [ownI C a dx [("name", vl n), ("cost", vl c)]])) ∧ ((costOk c && isName n) = false → R NoRule)
noncomputable def cellInitS (K : PySem.W.Frag) : Tw.Spec := fun A P R => ∃ (C a dx : Addr) (n : Tx) (c : Int) (s : Tx), A = [.own (ownI C a dx []), vl n, vl c, vl s] ∧ PySem.W.nsIn K mainGlobals "CellRule" = some (some (.ref C)) ∧ n.length ≤ 1000 ∧ s.length ≤ 1000 ∧
  ((RuleD.cell n c s).good = true → P (.chg repUnit () [ownI C a dx (RuleD.cell n c s).flds])) ∧ ((RuleD.cell n c s).good = false → R NoRule)
noncomputable def besideInitS (K : PySem.W.Frag) : Tw.Spec := fun A P R => ∃ (C a dx : Addr) (n : Tx) (c : Int) (x y : Tx), A = [.own (ownI C a dx []), vl n, vl c, vl x, vl y] ∧ PySem.W.nsIn K mainGlobals "BesideRule" = some (some (.ref C)) ∧ n.length ≤ 1000 ∧ x.length ≤ 1000 ∧ y.length ≤ 1000 ∧
  ((RuleD.beside n c x y).good = true → P (.chg repUnit () [ownI C a dx (RuleD.beside n c x y).flds])) ∧ ((RuleD.beside n c x y).good = false → R NoRule)
noncomputable def aboveInitS (K : PySem.W.Frag) : Tw.Spec := fun A P R => ∃ (C a dx : Addr) (n : Tx) (c : Int) (x y : Tx), A = [.own (ownI C a dx []), vl n, vl c, vl x, vl y] ∧ PySem.W.nsIn K mainGlobals "AboveRule" = some (some (.ref C)) ∧ n.length ≤ 1000 ∧ x.length ≤ 1000 ∧ y.length ≤ 1000 ∧
  ((RuleD.above n c x y).good = true → P (.chg repUnit () [ownI C a dx (RuleD.above n c x y).flds])) ∧ ((RuleD.above n c x y).good = false → R NoRule)
noncomputable def turnInitS (K : PySem.W.Frag) : Tw.Spec := fun A P R => ∃ (C a dx : Addr) (n : Tx) (c : Int) (x : Tx) (t : Int), A = [.own (ownI C a dx []), vl n, vl c, vl x, vl t] ∧ PySem.W.nsIn K mainGlobals "TurnRule" = some (some (.ref C)) ∧ n.length ≤ 1000 ∧ x.length ≤ 1000 ∧
  ((RuleD.turn n c x t).good = true → P (.chg repUnit () [ownI C a dx (RuleD.turn n c x t).flds])) ∧ ((RuleD.turn n c x t).good = false → R NoRule)
theorem OC.cl {K : PySem.W.Frag} {mg : Str → Option Value} {n : Str} {C : Addr} (h : OC K mg n) (e : PySem.W.nsIn K mainGlobals n = some (some (.ref C))) : Cls K C := by
  obtain ⟨D, kD, _⟩ := h
  obtain rfl := ns_one kD.ns e
  exact kD.cl
section
variable {P : Program} {w : World} {K : PySem.W.Frag} {mg : Str → Option Value} {base : Heap}
theorem lk {f : Str} {fs : List (Str × Slot)} (h : (fs.map (·.1)).contains f = false) : fs.lookup f = none := by
  induction fs with
  | nil => rfl
  | cons p fs ih =>
    obtain ⟨g, s⟩ := p
    rw [List.map_cons, List.contains_cons, Bool.or_eq_false_iff] at h
    rw [lookup_ne (by simpa using h.1)]
    exact ih h.2
theorem ok_is_name (T : Txt K mg) : Has P w K mg base 1 "is_name" ["text"] nameS := by
  refine Has.of T.f_is_name sc_is_name (fun A Q R ⟨x, e, _⟩ => by rw [e]; rfl) fun f cdv A outer s0 H E hr Γ Q R ⟨x, e, hl, hq⟩ => ?_
  subst e
  refine st_retV (ev_eq (y := isName x) (ev_and2 (ev_chain o_le (fun _ => o_le) ev_int (ev_lenS T.b_len (ev_var 0) (sl_small (by omega))) (fun _ => ev_gintE T.c_MOST_LETTERS)) fun _ => ev_all T.b_all (ev_of_en (en_lc (α := Tx) (β := Bool) (own := [("sign", 1)]) (f := fun y => decide (y.headD 0 ∈ capTx)) (src_str (ev_var 0)) (tg_name 1) (fun _ _ _ _ _ => pgn 1 sc_is_name.nd)
    (fun y hy _ _ _ _ _ => ?_) sc_is_name.nd (ok := bk_is_name (by decide +kernel)) (hz := by rw [List.length_map]; exact sl_small (by omega))))) ?_) hq
  · obtain ⟨c, _, rfl⟩ := List.mem_map.mp hy
    exact ev_cmp o_inS (ev_var 1) (ev_gstrE T.c_CAPITALS)
  · unfold isName
    rw [List.map_map, List.all_map]
    congr 1
    congr 1
    · exact decide_eq_decide.mpr (by omega)
    · exact decide_eq_decide.mpr (by omega)
theorem ok_asked_name (T : Txt K mg) : Has P w K mg base 2 "asked_name" ["text"] askedS := by
  refine Has.ofX T.f_asked_name sc_asked_name (fun A Q R ⟨x, e, _⟩ => by rw [e]; rfl) fun f cdv A outer s0 H E hr Γ Q R ⟨x, e, hl, h1, h2⟩ => ?_
  subst e
  refine st_if (et_not (et_val (ev_call (x := isName x) (ok_is_name T) (hr.mono (by decide)) (ea_cons (ev_var 0) ea_nil) fun P R h => ⟨x, rfl, hl, h⟩))) (fun h => ?_) (fun h => st_nil ?_)
  · exact st_raise0 T.x_NoRule T.p_NoRule (h2 (by simpa using h))
  · exact st_retV (ev_var 0) (h1 (by simpa using h))
theorem ok_Rule_init (T : Txt K mg) : HasM P w K mg base 3 "Rule" "__init__" ["self", "name", "cost"] (ruleInitS K) := by
  refine HasM.ofI T.m_Rule_init sc_Rule_init (fun A Q R ⟨C, a, dx, n, c, e, _⟩ => by rw [e]; rfl) fun f cdv A outer s0 H E hr Γ Q R ⟨C, a, dx, n, c, e, hc, hn1, hn2, hl, h1, h2⟩ => ⟨ownI C a dx [], ?_⟩
  subst e
  refine st_if (et_or (et_cmp o_lt (ev_var 2) ev_int) fun _ => et_cmp o_gt (ev_var 2) (ev_gintE T.c_MOST_COST)) (fun h => ?_) (fun h => st_nil ?_)
  · have hb : costOk c = false := by
      unfold costOk
      simp only [Bool.or_eq_true, decide_eq_true_eq, Bool.and_eq_false_iff, decide_eq_false_iff_not] at h ⊢
      omega
    exact st_raise0 T.x_NoRule T.p_NoRule (h2 (by rw [hb]; rfl))
  have hb : costOk c = true := by
    unfold costOk
    simp only [Bool.or_eq_false_iff, decide_eq_false_iff_not, Bool.and_eq_true, decide_eq_true_eq] at h ⊢
    omega
  rw [hb, Bool.true_and] at h1 h2
  cases hn : isName n with
  | false =>
    exact st_setFR (R := fun y => y = NoRule) (exx_call (ok_asked_name T) (hr.mono (by decide)) (ea_cons (ev_var 1) ea_nil) fun P' R' _ h => ⟨n, rfl, hl, fun z => by (rw [hn] at z; cases z), fun _ => h _ rfl⟩) (fun x e => e ▸ h2 hn) 0
  | true =>
    refine st_setF 0 (fs := []) (ev_call (x := n) (ok_asked_name T) (hr.mono (by decide)) (ea_cons (ev_var 1) ea_nil) fun P' R' h => ⟨n, rfl, hl, fun _ => h, fun z => by rw [hn] at z; cases z⟩) ?_ hc hn1 rfl
    exact st_setF 0 (fs := [("name", vl n)]) (ev_var 2) (st_nil ⟨_, rfl, rfl, h1 hn⟩) hc hn2 (lk rfl)
theorem ok_CellRule_init (T : Txt K mg) : HasM P w K mg base 4 "CellRule" "__init__" ["self", "name", "cost", "sign"] (cellInitS K) := by
  refine HasM.ofI T.m_CellRule_init sc_CellRule_init (fun A Q R ⟨C, a, dx, n, c, s, e, _⟩ => by rw [e]; rfl) fun f cdv A outer s0 H E hr Γ Q R ⟨C, a, dx, n, c, s, e, hC, hl, hls, h1, h2⟩ => ⟨ownI C a dx [], ?_⟩
  subst e
  have hc := OC.cl T.o_CellRule hC
  have key : ∀ k : Bool, k = signOk s → ((k = true → (RuleD.cell n c s).good = (costOk c && isName n)) ∧ (k = false → (RuleD.cell n c s).good = false)) := fun k e => by
    subst e
    show (_ → (signOk s && (costOk c && isName n)) = _) ∧ (_ → (signOk s && (costOk c && isName n)) = _)
    exact ⟨fun h => by rw [h, Bool.true_and], fun h => by rw [h, Bool.false_and]⟩
  have hlen : EV (cxOf (CXm P w K) P w K mg base N_CellRule_init "CellRule.__init__" (defScope s_CellRule_init) f cdv A outer s0 H E) [.own (ownI C a dx []), vl n, vl c, vl s] = EV (cxOf (CXm P w K) P w K mg base N_CellRule_init "CellRule.__init__" (defScope s_CellRule_init) f cdv A outer s0 H E) [.own (ownI C a dx []), vl n, vl c, vl s] := rfl
  have rest : signOk s = true → Tw.ST (cxOf (CXm P w K) P w K mg base N_CellRule_init "CellRule.__init__" (defScope s_CellRule_init) f cdv A outer s0 H E) ((defBody s_CellRule_init).drop 1) [.own (ownI C a dx []), vl n, vl c, vl s] (finI (ownI C a dx []) Q R) := fun hs => by
    have hg := (key _ rfl).1 hs
    cases hnc : (costOk c && isName n) with
    | false =>
      rw [hnc] at hg
      exact st_dropG (P := fun _ _ => False) (R := fun y Γ' => y = NoRule) (eg_cinit 0 (G := fun _ _ => False) T.o_Rule T.z_Rule (ok_Rule_init T) (hr.mono (by decide)) (eab_o 0 (eab_v (ev_var 1) (eab_v (ev_var 2) eab_nil))) rfl rfl (fun _ _ z => z.elim) (fun _ _ z => z.elim) fun P' R' _ h => ⟨C, a, dx, n, c, rfl, hc, T.a_CellRule_name C hC, T.a_CellRule_cost C hC, hl, fun z => by (rw [hnc] at z; cases z), fun _ => h _ rfl⟩) (fun _ _ z => z.elim) (fun y Γ' e => e ▸ h2 hg)
    | true =>
      rw [hnc] at hg
      refine st_dropG (P := fun _ Γ' => Γ' = _) (R := fun y Γ' => False) (eg_cinit 0 (G := fun _ o' => o' = ownI C a dx [("name", vl n), ("cost", vl c)]) T.o_Rule T.z_Rule (ok_Rule_init T) (hr.mono (by decide)) (eab_o 0 (eab_v (ev_var 1) (eab_v (ev_var 2) eab_nil))) rfl rfl (fun _ o' e => by (rw [e]; rfl)) (fun _ o' e => by rw [e]) fun P' R' h _ => ⟨C, a, dx, n, c, rfl, hc, T.a_CellRule_name C hC, T.a_CellRule_cost C hC, hl, fun _ => h () _ rfl, fun z => by rw [hnc] at z; cases z⟩) (fun _ Γ' e => e ▸ ?_) (fun y Γ' z => z.elim)
      exact st_setF 0 (fs := [("name", vl n), ("cost", vl c)]) (ev_var 3) (st_nil ⟨_, rfl, rfl, h1 hg⟩) hc (T.a_CellRule_sign C hC) (lk rfl)
  by_cases h1s : s.length = 1
  · obtain ⟨d, rfl⟩ : ∃ d, s = [d] := by
      match s, h1s with
      | [d], _ => exact ⟨d, rfl⟩
    refine st_if (et_or (et_cmp o_ne (ev_lenS T.b_len (ev_var 3) (sl_small (by simp))) ev_int) fun _ => et_cmp (o_notInS (c := d)) (ev_var 3) (ev_gstrE T.c_SMALL)) (fun h => ?_) (fun h => st_nil (rest ?_))
    · have h' : (!decide (d ∈ smallTx)) = true := h
      refine st_raise0 T.x_NoRule T.p_NoRule (h2 ((key _ rfl).2 ?_))
      show (true && (decide (d ∈ smallTx) && true)) = false
      generalize decide (d ∈ smallTx) = k at h' ⊢
      revert h'; cases k <;> decide
    · have h' : (!decide (d ∈ smallTx)) = false := h
      show (true && (decide (d ∈ smallTx) && true)) = true
      generalize decide (d ∈ smallTx) = k at h' ⊢
      revert h'; cases k <;> decide
  · refine st_if (k := true) (et_eq (et_or (m := false) (et_cmp o_ne (ev_lenS T.b_len (ev_var 3) (sl_small (by omega))) ev_int) fun h => absurd h ?_) ?_) (fun _ => st_raise0 T.x_NoRule T.p_NoRule (h2 ((key _ rfl).2 ?_))) (fun h => nomatch h)
    · simp; omega
    · simp; omega
    · unfold signOk
      rw [decide_eq_false h1s]; rfl
theorem ok_BesideRule_init (T : Txt K mg) : HasM P w K mg base 4 "BesideRule" "__init__" ["self", "name", "cost", "one", "other"] (besideInitS K) := by
  refine HasM.ofI T.m_BesideRule_init sc_BesideRule_init (fun A Q R ⟨C, a, dx, n, c, x, y, e, _⟩ => by rw [e]; rfl) fun f cdv A outer s0 H E hr Γ Q R ⟨C, a, dx, n, c, x, y, e, hC, hl, hlx, hly, h1, h2⟩ => ⟨ownI C a dx [], ?_⟩
  subst e
  have hc := OC.cl T.o_BesideRule hC
  cases hnc : (costOk c && isName n) with
  | false =>
    refine st_dropG (P := fun _ _ => False) (R := fun y Γ' => y = NoRule) (eg_cinit 0 (G := fun _ _ => False) T.o_Rule T.z_Rule (ok_Rule_init T) (hr.mono (by decide)) (eab_o 0 (eab_v (ev_var 1) (eab_v (ev_var 2) eab_nil))) rfl rfl (fun _ _ z => z.elim) (fun _ _ z => z.elim) fun P' R' _ h => ⟨C, a, dx, n, c, rfl, hc, T.a_BesideRule_name C hC, T.a_BesideRule_cost C hC, hl, fun z => by (rw [hnc] at z; cases z), fun _ => h _ rfl⟩) (fun _ _ z => z.elim) (fun y' Γ' e => e ▸ h2 ?_)
    show ((costOk c && isName n) && (isName x && isName y)) = false
    rw [hnc]; rfl
  | true =>
    refine st_dropG (P := fun _ Γ' => Γ' = _) (R := fun y Γ' => False) (eg_cinit 0 (G := fun _ o' => o' = ownI C a dx [("name", vl n), ("cost", vl c)]) T.o_Rule T.z_Rule (ok_Rule_init T) (hr.mono (by decide)) (eab_o 0 (eab_v (ev_var 1) (eab_v (ev_var 2) eab_nil))) rfl rfl (fun _ o' e => by (rw [e]; rfl)) (fun _ o' e => by rw [e]) fun P' R' h _ => ⟨C, a, dx, n, c, rfl, hc, T.a_BesideRule_name C hC, T.a_BesideRule_cost C hC, hl, fun _ => h () _ rfl, fun z => by rw [hnc] at z; cases z⟩) (fun _ Γ' e => e ▸ ?_) (fun y Γ' z => z.elim)
    cases hx : isName x with
    | false =>
      refine st_setFR (R := fun y => y = NoRule) (exx_call (ok_asked_name T) (hr.mono (by decide)) (ea_cons (ev_var 3) ea_nil) fun P' R' _ h => ⟨x, rfl, hlx, fun z => by (rw [hx] at z; cases z), fun _ => h _ rfl⟩) (fun y' e => e ▸ h2 ?_) 0
      show ((costOk c && isName n) && (isName x && isName y)) = false
      rw [hnc, hx]; rfl
    | true =>
      refine st_setF 0 (fs := [("name", vl n), ("cost", vl c)]) (ev_call (x := x) (ok_asked_name T) (hr.mono (by decide)) (ea_cons (ev_var 3) ea_nil) fun P' R' h => ⟨x, rfl, hlx, fun _ => h, fun z => by rw [hx] at z; cases z⟩) ?_ hc (T.a_BesideRule_one C hC) (lk rfl)
      cases hy : isName y with
      | false =>
        refine st_setFR (R := fun y => y = NoRule) (exx_call (ok_asked_name T) (hr.mono (by decide)) (ea_cons (ev_var 4) ea_nil) fun P' R' _ h => ⟨y, rfl, hly, fun z => by (rw [hy] at z; cases z), fun _ => h _ rfl⟩) (fun y' e => e ▸ h2 ?_) 0
        show ((costOk c && isName n) && (isName x && isName y)) = false
        rw [hnc, hx, hy]; rfl
      | true =>
        refine st_setF 0 (fs := [("name", vl n), ("cost", vl c), ("one", vl x)]) (ev_call (x := y) (ok_asked_name T) (hr.mono (by decide)) (ea_cons (ev_var 4) ea_nil) fun P' R' h => ⟨y, rfl, hly, fun _ => h, fun z => by rw [hy] at z; cases z⟩) (st_nil ⟨_, rfl, rfl, h1 ?_⟩) hc (T.a_BesideRule_other C hC) (lk rfl)
        show ((costOk c && isName n) && (isName x && isName y)) = true
        rw [hnc, hx, hy]; rfl
theorem ok_AboveRule_init (T : Txt K mg) : HasM P w K mg base 4 "AboveRule" "__init__" ["self", "name", "cost", "one", "other"] (aboveInitS K) := by
  refine HasM.ofI T.m_AboveRule_init sc_AboveRule_init (fun A Q R ⟨C, a, dx, n, c, x, y, e, _⟩ => by rw [e]; rfl) fun f cdv A outer s0 H E hr Γ Q R ⟨C, a, dx, n, c, x, y, e, hC, hl, hlx, hly, h1, h2⟩ => ⟨ownI C a dx [], ?_⟩
  subst e
  have hc := OC.cl T.o_AboveRule hC
  cases hnc : (costOk c && isName n) with
  | false =>
    refine st_dropG (P := fun _ _ => False) (R := fun y Γ' => y = NoRule) (eg_cinit 0 (G := fun _ _ => False) T.o_Rule T.z_Rule (ok_Rule_init T) (hr.mono (by decide)) (eab_o 0 (eab_v (ev_var 1) (eab_v (ev_var 2) eab_nil))) rfl rfl (fun _ _ z => z.elim) (fun _ _ z => z.elim) fun P' R' _ h => ⟨C, a, dx, n, c, rfl, hc, T.a_AboveRule_name C hC, T.a_AboveRule_cost C hC, hl, fun z => by (rw [hnc] at z; cases z), fun _ => h _ rfl⟩) (fun _ _ z => z.elim) (fun y' Γ' e => e ▸ h2 ?_)
    show ((costOk c && isName n) && (isName x && isName y)) = false
    rw [hnc]; rfl
  | true =>
    refine st_dropG (P := fun _ Γ' => Γ' = _) (R := fun y Γ' => False) (eg_cinit 0 (G := fun _ o' => o' = ownI C a dx [("name", vl n), ("cost", vl c)]) T.o_Rule T.z_Rule (ok_Rule_init T) (hr.mono (by decide)) (eab_o 0 (eab_v (ev_var 1) (eab_v (ev_var 2) eab_nil))) rfl rfl (fun _ o' e => by (rw [e]; rfl)) (fun _ o' e => by rw [e]) fun P' R' h _ => ⟨C, a, dx, n, c, rfl, hc, T.a_AboveRule_name C hC, T.a_AboveRule_cost C hC, hl, fun _ => h () _ rfl, fun z => by rw [hnc] at z; cases z⟩) (fun _ Γ' e => e ▸ ?_) (fun y Γ' z => z.elim)
    cases hx : isName x with
    | false =>
      refine st_setFR (R := fun y => y = NoRule) (exx_call (ok_asked_name T) (hr.mono (by decide)) (ea_cons (ev_var 3) ea_nil) fun P' R' _ h => ⟨x, rfl, hlx, fun z => by (rw [hx] at z; cases z), fun _ => h _ rfl⟩) (fun y' e => e ▸ h2 ?_) 0
      show ((costOk c && isName n) && (isName x && isName y)) = false
      rw [hnc, hx]; rfl
    | true =>
      refine st_setF 0 (fs := [("name", vl n), ("cost", vl c)]) (ev_call (x := x) (ok_asked_name T) (hr.mono (by decide)) (ea_cons (ev_var 3) ea_nil) fun P' R' h => ⟨x, rfl, hlx, fun _ => h, fun z => by rw [hx] at z; cases z⟩) ?_ hc (T.a_AboveRule_one C hC) (lk rfl)
      cases hy : isName y with
      | false =>
        refine st_setFR (R := fun y => y = NoRule) (exx_call (ok_asked_name T) (hr.mono (by decide)) (ea_cons (ev_var 4) ea_nil) fun P' R' _ h => ⟨y, rfl, hly, fun z => by (rw [hy] at z; cases z), fun _ => h _ rfl⟩) (fun y' e => e ▸ h2 ?_) 0
        show ((costOk c && isName n) && (isName x && isName y)) = false
        rw [hnc, hx, hy]; rfl
      | true =>
        refine st_setF 0 (fs := [("name", vl n), ("cost", vl c), ("one", vl x)]) (ev_call (x := y) (ok_asked_name T) (hr.mono (by decide)) (ea_cons (ev_var 4) ea_nil) fun P' R' h => ⟨y, rfl, hly, fun _ => h, fun z => by rw [hy] at z; cases z⟩) (st_nil ⟨_, rfl, rfl, h1 ?_⟩) hc (T.a_AboveRule_other C hC) (lk rfl)
        show ((costOk c && isName n) && (isName x && isName y)) = true
        rw [hnc, hx, hy]; rfl
theorem ok_TurnRule_init (T : Txt K mg) : HasM P w K mg base 4 "TurnRule" "__init__" ["self", "name", "cost", "part", "turning"] (turnInitS K) := by
  refine HasM.ofI T.m_TurnRule_init sc_TurnRule_init (fun A Q R ⟨C, a, dx, n, c, x, t, e, _⟩ => by rw [e]; rfl) fun f cdv A outer s0 H E hr Γ Q R ⟨C, a, dx, n, c, x, t, e, hC, hl, hlx, h1, h2⟩ => ⟨ownI C a dx [], ?_⟩
  subst e
  have hc := OC.cl T.o_TurnRule hC
  have good : (RuleD.turn n c x t).good = ((decide (0 ≤ t) && decide (t ≤ 7)) && ((costOk c && isName n) && isName x)) := rfl
  rw [good] at h1 h2
  refine st_if (et_or (et_cmp o_lt (ev_var 4) ev_int) fun _ => et_cmp o_gt (ev_var 4) ev_int) (fun h => ?_) (fun h => st_nil ?_)
  · refine st_raise0 T.x_NoRule T.p_NoRule (h2 ?_)
    have : (decide (0 ≤ t) && decide (t ≤ 7)) = false := by
      simp only [Bool.or_eq_true, decide_eq_true_eq, Bool.and_eq_false_iff, decide_eq_false_iff_not] at h ⊢
      omega
    rw [this]; rfl
  have ht : (decide (0 ≤ t) && decide (t ≤ 7)) = true := by
    simp only [Bool.or_eq_false_iff, decide_eq_false_iff_not, Bool.and_eq_true, decide_eq_true_eq] at h ⊢
    omega
  rw [ht, Bool.true_and] at h1 h2
  cases hnc : (costOk c && isName n) with
  | false =>
    exact st_dropG (P := fun _ _ => False) (R := fun y Γ' => y = NoRule) (eg_cinit 0 (G := fun _ _ => False) T.o_Rule T.z_Rule (ok_Rule_init T) (hr.mono (by decide)) (eab_o 0 (eab_v (ev_var 1) (eab_v (ev_var 2) eab_nil))) rfl rfl (fun _ _ z => z.elim) (fun _ _ z => z.elim) fun P' R' _ h => ⟨C, a, dx, n, c, rfl, hc, T.a_TurnRule_name C hC, T.a_TurnRule_cost C hC, hl, fun z => by (rw [hnc] at z; cases z), fun _ => h _ rfl⟩) (fun _ _ z => z.elim) (fun y Γ' e => e ▸ h2 (by rw [hnc]; rfl))
  | true =>
    rw [hnc, Bool.true_and] at h1 h2
    refine st_dropG (P := fun _ Γ' => Γ' = _) (R := fun y Γ' => False) (eg_cinit 0 (G := fun _ o' => o' = ownI C a dx [("name", vl n), ("cost", vl c)]) T.o_Rule T.z_Rule (ok_Rule_init T) (hr.mono (by decide)) (eab_o 0 (eab_v (ev_var 1) (eab_v (ev_var 2) eab_nil))) rfl rfl (fun _ o' e => by (rw [e]; rfl)) (fun _ o' e => by rw [e]) fun P' R' h _ => ⟨C, a, dx, n, c, rfl, hc, T.a_TurnRule_name C hC, T.a_TurnRule_cost C hC, hl, fun _ => h () _ rfl, fun z => by rw [hnc] at z; cases z⟩) (fun _ Γ' e => e ▸ ?_) (fun y Γ' z => z.elim)
    cases hx : isName x with
    | false => exact st_setFR (R := fun y => y = NoRule) (exx_call (ok_asked_name T) (hr.mono (by decide)) (ea_cons (ev_var 3) ea_nil) fun P' R' _ h => ⟨x, rfl, hlx, fun z => by (rw [hx] at z; cases z), fun _ => h _ rfl⟩) (fun y' e => e ▸ h2 hx) 0
    | true =>
      refine st_setF 0 (fs := [("name", vl n), ("cost", vl c)]) (ev_call (x := x) (ok_asked_name T) (hr.mono (by decide)) (ea_cons (ev_var 3) ea_nil) fun P' R' h => ⟨x, rfl, hlx, fun _ => h, fun z => by rw [hx] at z; cases z⟩) ?_ hc (T.a_TurnRule_part C hC) (lk rfl)
      exact st_setF 0 (fs := [("name", vl n), ("cost", vl c), ("part", vl x)]) (ev_var 4) (st_nil ⟨_, rfl, rfl, h1 hx⟩) hc (T.a_TurnRule_turning C hC) (lk rfl)
end
theorem strI_one : ∀ n : Nat, n < 10 → strI (n : Int) = [48 + n] := by decide +kernel
theorem RuleD.f_name (r : RuleD) : r.flds.lookup ("name" : Str) = some (vl r.name) := by cases r <;> rfl
theorem RuleD.f_cost (r : RuleD) : r.flds.lookup ("cost" : Str) = some (vl r.cost) := by cases r <;> rfl
theorem costOk_of {c : Int} (h : costOk c = true) : 1 ≤ c ∧ c ≤ 9 := by
  unfold costOk at h
  simpa using h
theorem signOk_of {s : Tx} (h : signOk s = true) : s.length = 1 := by
  unfold signOk at h
  rw [Bool.and_eq_true, decide_eq_true_eq] at h
  exact h.1
theorem RuleD.good_of {r : RuleD} (h : r.good = true) : isName r.name = true ∧ costOk r.cost = true := by
  cases r <;> simp only [RuleD.good, Bool.and_eq_true] at h <;> simp_all [RuleD.name, RuleD.cost]
theorem RuleD.bounds {r : RuleD} (h : r.good = true) : r.name.length ≤ 4 ∧ 1 ≤ r.cost ∧ r.cost ≤ 9 := by
  obtain ⟨h1, h2⟩ := RuleD.good_of h
  have := costOk_of h2
  exact ⟨isName_len h1, this⟩
theorem strI_len {c : Int} (h : 0 ≤ c ∧ c ≤ 9) : (strI c).length = 1 := by
  have := strI_one c.toNat (by omega)
  rw [show ((c.toNat : Nat) : Int) = c by omega] at this
  rw [this]; rfl
theorem log2_small {c : Int} (h : 0 ≤ c ∧ c ≤ 9) : c.natAbs.log2 < 1920 := by
  have h1 : ∀ n : Nat, n < 10 → n.log2 < 1920 := by decide
  exact h1 _ (by omega)
theorem RuleD.begun_len {r : RuleD} (h : r.good = true) : r.begun.length ≤ 8 := by
  obtain ⟨h1, h2⟩ := RuleD.bounds h
  have := strI_len (c := r.cost) (by omega)
  unfold RuleD.begun
  simp only [List.length_append]
  rw [this]
  show r.name.length + 1 + 1 + 2 ≤ 8
  omega
section
variable {K : PySem.W.Frag} {mg : Str → Option Value}
theorem o_cls (T : Txt K mg) (r : RuleD) : OC K mg r.cls := by
  cases r
  · exact T.o_CellRule
  · exact T.o_BesideRule
  · exact T.o_AboveRule
  · exact T.o_TurnRule
theorem a_name (T : Txt K mg) (r : RuleD) : NoA K r.cls "name" := by
  cases r
  · exact T.a_CellRule_name
  · exact T.a_BesideRule_name
  · exact T.a_AboveRule_name
  · exact T.a_TurnRule_name
end
noncomputable def partsS (n : Str) : Tw.Spec := fun A P _ => ∃ (r : RuleD), A = [vl r] ∧ r.cls = n ∧ P (rn r.parts)
section
variable {P : Program} {w : World} {K : PySem.W.Frag} {mg : Str → Option Value} {base : Heap}
theorem ok_CellRule_parts (T : Txt K mg) : HasM P w K mg base 1 "CellRule" "parts" ["self"] (partsS "CellRule") := by
  refine HasM.of T.m_CellRule_parts sc_Rule_parts (fun A Q R ⟨r, e, _⟩ => by rw [e]; rfl) fun f cdv A outer s0 H E hr Γ Q R ⟨r, e, hcl, hq⟩ => ?_
  subst e
  cases r <;> first | exact st_retE (en_lst es_nil) hq | exact absurd hcl (of_decide_eq_false rfl)
theorem ok_BesideRule_parts (T : Txt K mg) : HasM P w K mg base 1 "BesideRule" "parts" ["self"] (partsS "BesideRule") := by
  refine HasM.of T.m_BesideRule_parts sc_BesideRule_parts (fun A Q R ⟨r, e, _⟩ => by rw [e]; rfl) fun f cdv A outer s0 H E hr Γ Q R ⟨r, e, hcl, hq⟩ => ?_
  subst e
  cases r with
  | beside n c x y => exact st_retE (en_lst (es_cons (ev_fld T.o_BesideRule T.a_BesideRule_one hcl rfl (ev_var 0)) (es_cons (ev_fld T.o_BesideRule T.a_BesideRule_other hcl rfl (ev_var 0)) es_nil))) hq
  | _ => exact absurd hcl (of_decide_eq_false rfl)
theorem ok_AboveRule_parts (T : Txt K mg) : HasM P w K mg base 1 "AboveRule" "parts" ["self"] (partsS "AboveRule") := by
  refine HasM.of T.m_AboveRule_parts sc_AboveRule_parts (fun A Q R ⟨r, e, _⟩ => by rw [e]; rfl) fun f cdv A outer s0 H E hr Γ Q R ⟨r, e, hcl, hq⟩ => ?_
  subst e
  cases r with
  | above n c x y => exact st_retE (en_lst (es_cons (ev_fld T.o_AboveRule T.a_AboveRule_one hcl rfl (ev_var 0)) (es_cons (ev_fld T.o_AboveRule T.a_AboveRule_other hcl rfl (ev_var 0)) es_nil))) hq
  | _ => exact absurd hcl (of_decide_eq_false rfl)
theorem ok_TurnRule_parts (T : Txt K mg) : HasM P w K mg base 1 "TurnRule" "parts" ["self"] (partsS "TurnRule") := by
  refine HasM.of T.m_TurnRule_parts sc_TurnRule_parts (fun A Q R ⟨r, e, _⟩ => by rw [e]; rfl) fun f cdv A outer s0 H E hr Γ Q R ⟨r, e, hcl, hq⟩ => ?_
  subst e
  cases r with
  | turn n c x t => exact st_retE (en_lst (es_cons (ev_fld T.o_TurnRule T.a_TurnRule_part hcl rfl (ev_var 0)) es_nil)) hq
  | _ => exact absurd hcl (of_decide_eq_false rfl)
theorem RuleD.f_parts (r : RuleD) : r.flds.lookup ("parts" : Str) = none := by cases r <;> exact lk rfl
theorem ok_parts (T : Txt K mg) (r : RuleD) : HasM P w K mg base 1 r.cls "parts" ["self"] (partsS r.cls) := by
  cases r
  · exact ok_CellRule_parts T
  · exact ok_BesideRule_parts T
  · exact ok_AboveRule_parts T
  · exact ok_TurnRule_parts T
end
noncomputable def begunS (n : Str) : Tw.Spec := fun A P _ => ∃ (r : RuleD), A = [vl r] ∧ r.cls = n ∧ r.good = true ∧ P (rv r.begun)
noncomputable def toldS (n : Str) : Tw.Spec := fun A P _ => ∃ (r : RuleD), A = [vl r] ∧ r.cls = n ∧ r.good = true ∧ P (rv r.told)
section
variable {P : Program} {w : World} {K : PySem.W.Frag} {mg : Str → Option Value} {base : Heap}
theorem ok_begun {n : Str} (hc : OC K mg n) (D : Dm K n "begun" "Rule.begun" s_Rule_begun ["self"]) (a1 : NoA K n "name") (a2 : NoA K n "cost") (hs : mg "str" = none) : HasM P w K mg base 1 n "begun" ["self"] (begunS n) := by
  refine HasM.of D sc_Rule_begun (fun A Q R ⟨r, e, _⟩ => by rw [e]; rfl) fun f cdv A outer s0 H E hr Γ Q R ⟨r, e, hcl, hg, hq⟩ => ?_
  subst e
  obtain ⟨h1, h2, h3⟩ := RuleD.bounds hg
  have hl := strI_len (c := r.cost) (by omega)
  refine st_retV (ev_bin (o_addS (sl_small ?_)) (ev_bin (o_addS (sl_small ?_)) (ev_bin (o_addS (sl_small ?_)) (ev_fld hc a1 hcl r.f_name (ev_var 0)) (ev_str " ")) (ev_strI hs (ev_fld hc a2 hcl r.f_cost (ev_var 0)) (log2_small (by omega)))) (ev_str ": ")) hq
  · show (r.name ++ tx " " ++ strI r.cost).length + 2 ≤ 1000
    simp only [List.length_append]
    rw [hl]
    show r.name.length + 1 + 1 + 2 ≤ 1000
    omega
  · rw [List.length_append, hl]
    show r.name.length + 1 + 1 ≤ 1000
    omega
  · show r.name.length + 1 ≤ 1000
    omega
theorem ok_CellRule_begun (T : Txt K mg) : HasM P w K mg base 1 "CellRule" "begun" ["self"] (begunS "CellRule") := ok_begun T.o_CellRule T.m_CellRule_begun T.a_CellRule_name T.a_CellRule_cost T.b_str
theorem ok_BesideRule_begun (T : Txt K mg) : HasM P w K mg base 1 "BesideRule" "begun" ["self"] (begunS "BesideRule") := ok_begun T.o_BesideRule T.m_BesideRule_begun T.a_BesideRule_name T.a_BesideRule_cost T.b_str
theorem ok_AboveRule_begun (T : Txt K mg) : HasM P w K mg base 1 "AboveRule" "begun" ["self"] (begunS "AboveRule") := ok_begun T.o_AboveRule T.m_AboveRule_begun T.a_AboveRule_name T.a_AboveRule_cost T.b_str
theorem ok_TurnRule_begun (T : Txt K mg) : HasM P w K mg base 1 "TurnRule" "begun" ["self"] (begunS "TurnRule") := ok_begun T.o_TurnRule T.m_TurnRule_begun T.a_TurnRule_name T.a_TurnRule_cost T.b_str
theorem ok_CellRule_told (T : Txt K mg) : HasM P w K mg base 2 "CellRule" "told" ["self"] (toldS "CellRule") := by
  refine HasM.of T.m_CellRule_told sc_CellRule_told (fun A Q R ⟨r, e, _⟩ => by rw [e]; rfl) fun f cdv A outer s0 H E hr Γ Q R ⟨r, e, hcl, hg, hq⟩ => ?_
  subst e
  have hb := RuleD.begun_len hg
  cases r with
  | cell n c s =>
    have hs := signOk_of (Bool.and_eq_true .. ▸ hg : signOk s = true ∧ _).1
    exact st_retV (ev_bin (o_addS (sl_small (by omega))) (ev_meth0 T.o_CellRule (ok_CellRule_begun T) (hr.mono (by decide)) hcl (lk rfl) (ev_var 0) fun P' R' h => ⟨_, rfl, hcl, hg, h⟩) (ev_fld T.o_CellRule T.a_CellRule_sign hcl rfl (ev_var 0))) hq
  | _ => exact absurd hcl (of_decide_eq_false rfl)
theorem ok_BesideRule_told (T : Txt K mg) : HasM P w K mg base 2 "BesideRule" "told" ["self"] (toldS "BesideRule") := by
  refine HasM.of T.m_BesideRule_told sc_BesideRule_told (fun A Q R ⟨r, e, _⟩ => by rw [e]; rfl) fun f cdv A outer s0 H E hr Γ Q R ⟨r, e, hcl, hg, hq⟩ => ?_
  subst e
  have hb := RuleD.begun_len hg
  cases r with
  | beside n c x y =>
    have hn : isName x = true ∧ isName y = true := by
      simp only [RuleD.good, Bool.and_eq_true] at hg
      exact hg.2
    have hx := isName_len hn.1
    have hy := isName_len hn.2
    refine st_retV (ev_bin (o_addS (sl_small ?_)) (ev_bin (o_addS (sl_small ?_)) (ev_bin (o_addS (sl_small (by omega))) (ev_meth0 T.o_BesideRule (ok_BesideRule_begun T) (hr.mono (by decide)) hcl (lk rfl) (ev_var 0) fun P' R' h => ⟨_, rfl, hcl, hg, h⟩) (ev_fld T.o_BesideRule T.a_BesideRule_one hcl rfl (ev_var 0))) (ev_str " | ")) (ev_fld T.o_BesideRule T.a_BesideRule_other hcl rfl (ev_var 0))) hq
    · simp only [List.length_append]
      show _ + _ + 3 + _ ≤ 1000
      omega
    · simp only [List.length_append]
      show _ + _ + 3 ≤ 1000
      omega
  | _ => exact absurd hcl (of_decide_eq_false rfl)
theorem ok_AboveRule_told (T : Txt K mg) : HasM P w K mg base 2 "AboveRule" "told" ["self"] (toldS "AboveRule") := by
  refine HasM.of T.m_AboveRule_told sc_AboveRule_told (fun A Q R ⟨r, e, _⟩ => by rw [e]; rfl) fun f cdv A outer s0 H E hr Γ Q R ⟨r, e, hcl, hg, hq⟩ => ?_
  subst e
  have hb := RuleD.begun_len hg
  cases r with
  | above n c x y =>
    have hn : isName x = true ∧ isName y = true := by
      simp only [RuleD.good, Bool.and_eq_true] at hg
      exact hg.2
    have hx := isName_len hn.1
    have hy := isName_len hn.2
    refine st_retV (ev_bin (o_addS (sl_small ?_)) (ev_bin (o_addS (sl_small ?_)) (ev_bin (o_addS (sl_small (by omega))) (ev_meth0 T.o_AboveRule (ok_AboveRule_begun T) (hr.mono (by decide)) hcl (lk rfl) (ev_var 0) fun P' R' h => ⟨_, rfl, hcl, hg, h⟩) (ev_fld T.o_AboveRule T.a_AboveRule_one hcl rfl (ev_var 0))) (ev_str " / ")) (ev_fld T.o_AboveRule T.a_AboveRule_other hcl rfl (ev_var 0))) hq
    · simp only [List.length_append]
      show _ + _ + 3 + _ ≤ 1000
      omega
    · simp only [List.length_append]
      show _ + _ + 3 ≤ 1000
      omega
  | _ => exact absurd hcl (of_decide_eq_false rfl)
theorem ok_TurnRule_told (T : Txt K mg) : HasM P w K mg base 2 "TurnRule" "told" ["self"] (toldS "TurnRule") := by
  refine HasM.of T.m_TurnRule_told sc_TurnRule_told (fun A Q R ⟨r, e, _⟩ => by rw [e]; rfl) fun f cdv A outer s0 H E hr Γ Q R ⟨r, e, hcl, hg, hq⟩ => ?_
  subst e
  have hb := RuleD.begun_len hg
  cases r with
  | turn n c x t =>
    have hn : (0 ≤ t ∧ t ≤ 7) ∧ isName x = true := by
      simp only [RuleD.good, Bool.and_eq_true, decide_eq_true_eq] at hg
      exact ⟨hg.1, hg.2.2⟩
    have hx := isName_len hn.2
    have ht := strI_len (c := t) (by omega)
    refine st_retV (ev_bin (o_addS (sl_small ?_)) (ev_bin (o_addS (sl_small ?_)) (ev_bin (o_addS (sl_small (by omega))) (ev_meth0 T.o_TurnRule (ok_TurnRule_begun T) (hr.mono (by decide)) hcl (lk rfl) (ev_var 0) fun P' R' h => ⟨_, rfl, hcl, hg, h⟩) (ev_fld T.o_TurnRule T.a_TurnRule_part hcl rfl (ev_var 0))) (ev_str " turned ")) (ev_strI T.b_str (ev_fld T.o_TurnRule T.a_TurnRule_turning hcl rfl (ev_var 0)) (log2_small (by omega)))) hq
    · simp only [List.length_append]
      rw [ht]
      show _ + _ + 8 + 1 ≤ 1000
      omega
    · simp only [List.length_append]
      show _ + _ + 8 ≤ 1000
      omega
  | _ => exact absurd hcl (of_decide_eq_false rfl)
theorem RuleD.f_told (r : RuleD) : r.flds.lookup ("told" : Str) = none := by cases r <;> exact lk rfl
theorem ok_told (T : Txt K mg) (r : RuleD) : HasM P w K mg base 2 r.cls "told" ["self"] (toldS r.cls) := by
  cases r
  · exact ok_CellRule_told T
  · exact ok_BesideRule_told T
  · exact ok_AboveRule_told T
  · exact ok_TurnRule_told T
end
noncomputable def mixI (c k : Int) : Int := c / 2147483647 * 2147483647 + ((c % 2147483647 + 7919 * k + 1) * 48271 % 2147483647 * 69621 + k) % 2147483647
noncomputable def mixCell (s : List Int) (k : Int) : Int := if k < s.length then mixI (s.getD k.toNat 0) k else mixI 0 k
noncomputable def mixS : Tw.Spec := fun A P _ => ∃ (c k : Int), A = [vl c, vl k] ∧ P (rv (mixI c k))
noncomputable def mcellS : Tw.Spec := fun A P _ => ∃ (s : Scr) (k : Int), A = [vl s, vl k] ∧ s.l.length ≤ 63 ∧ 0 ≤ k ∧ P (rv (mixCell s.l k))
section
variable {P : Program} {w : World} {K : PySem.W.Frag} {mg : Str → Option Value} {base : Heap}
theorem mulR {i j : Int} (h1 : autoParam (-(2 ^ 64) < j) Tw.aDec) (h2 : autoParam (j < 2 ^ 64) Tw.aDec) : CMul i j := .inr ⟨h1, h2⟩
theorem mulL {i j : Int} (h1 : autoParam (-(2 ^ 64) < i) Tw.aDec) (h2 : autoParam (i < 2 ^ 64) Tw.aDec) : CMul i j := .inl ⟨h1, h2⟩
theorem divK {i j : Int} (h : autoParam (0 < j) Tw.aDec) (h2 : autoParam (j.natAbs.log2 < 9000) Tw.aDec) : CDivW i j := ⟨h, h2⟩
theorem ok_law_mix (T : Txt K mg) : Has P w K mg base 1 "_law_mix" ["_law_cell_here", "_law_k"] mixS := by
  refine Has.of T.f_law_mix sc_law_mix (fun A Q R ⟨c, k, e, _⟩ => by rw [e]; rfl) fun f cdv A outer s0 H E hr Γ Q R ⟨c, k, e, hq⟩ => ?_
  subst e
  refine st_set 2 (ev_bin (o_mod (by decide)) (ev_bin (o_mul mulR) (ev_bin o_add (ev_bin o_add (ev_bin (o_mod (by decide)) (ev_var 0) ev_int) (ev_bin (o_mul mulL) ev_int (ev_var 1))) ev_int) ev_int) ev_int) ?_ sc_law_mix.nd
  exact st_retV (ev_bin o_add (ev_bin (o_mul mulR) (ev_bin (o_div divK) (ev_var 0) ev_int) ev_int) (ev_bin (o_mod (by decide)) (ev_bin o_add (ev_bin (o_mul mulR) (ev_var 2) ev_int) (ev_var 1)) ev_int)) hq
theorem ok_law_cell (T : Txt K mg) : Has P w K mg base 2 "_law_cell" ["_law_script", "_law_k"] mcellS := by
  refine Has.of T.f_law_cell sc_law_cell (fun A Q R ⟨s, k, e, _⟩ => by rw [e]; rfl) fun f cdv A outer s0 H E hr Γ Q R ⟨s, k, e, hl, hk, hq⟩ => ?_
  subst e
  unfold mixCell at hq
  refine st_if (et_cmp o_lt (ev_var 1) (ev_lenScr T.b_len (ev_var 0))) (fun h => ?_) (fun h => st_nil ?_)
  · have h1 := of_decide_eq_true h
    have hlt : k.toNat < s.l.length := by omega
    rw [if_pos h1] at hq
    refine st_retV (ev_call (ok_law_mix T) (hr.mono (by decide)) (ea_cons (ev_ixScr (x := s.l.getD k.toNat 0) (ev_var 0) (ev_var 1) ?_) (ea_cons (ev_var 1) ea_nil)) fun P R h => ⟨_, _, rfl, h⟩) hq
    have := atI_nat (xs := s.l) (j := k.toNat) (List.getElem?_eq_getElem hlt)
    rw [show ((k.toNat : Nat) : Int) = k by omega] at this
    rw [this, List.getD_eq_getElem?_getD, List.getElem?_eq_getElem hlt]; rfl
  · have h1 := of_decide_eq_false h
    rw [if_neg h1] at hq
    exact st_retV (ev_call (ok_law_mix T) (hr.mono (by decide)) (ea_cons ev_int (ea_cons (ev_var 1) ea_nil)) fun P R h => ⟨_, _, rfl, h⟩) hq
end
theorem cut_to {A : Type} {xs : List A} {n : Nat} : cutL xs none (some (n : Int)) = xs.take n := by
  unfold cutL
  rw [HT.sIx_nat]
  show (xs.drop 0).take _ = _
  rw [List.drop_zero]
  show xs.take (min n xs.length - 0) = _
  rw [Nat.sub_zero]
  by_cases h : n ≤ xs.length
  · rw [Nat.min_eq_left h]
  · rw [Nat.min_eq_right (by omega), List.take_of_length_le (Nat.le_refl _), List.take_of_length_le (by omega)]
theorem cut_from {A : Type} {xs : List A} {n : Nat} : cutL xs (some (n : Int)) none = xs.drop n := by
  unfold cutL
  rw [HT.sIx_nat]
  show (xs.drop (min n xs.length)).take (xs.length - min n xs.length) = _
  by_cases h : n ≤ xs.length
  · rw [Nat.min_eq_left h, List.take_of_length_le (by rw [List.length_drop]; exact Nat.le_refl _)]
  · rw [Nat.min_eq_right (by omega), List.drop_of_length_le (Nat.le_refl _), List.drop_of_length_le (by omega), List.take_nil]
theorem cutL_len {A : Type} {xs : List A} {a b : Option Int} : (cutL xs a b).length ≤ xs.length := by
  unfold cutL
  rw [List.length_take, List.length_drop]
  omega
theorem cutL_mem {A : Type} {xs : List A} {a b : Option Int} {x : A} (h : x ∈ cutL xs a b) : x ∈ xs := List.mem_of_mem_drop (List.mem_of_mem_take h)
noncomputable def capI (n : Int) : Nat := 65 + (n % 26).toNat
theorem cap_at : ∀ n, n < 26 → capTx[n]? = some (65 + n) := by decide +kernel
theorem cap_atI (n : Int) : atI capTx (n % 26) = some (capI n) := by
  have h1 := Int.emod_nonneg n (by decide : (26 : Int) ≠ 0)
  have h2 := Int.emod_lt_of_pos n (by decide : (0 : Int) < 26)
  have := atI_nat (cap_at (n % 26).toNat (by omega))
  rw [show (((n % 26).toNat : Nat) : Int) = n % 26 by omega] at this
  exact this
theorem capI_mem (n : Int) : capI n ∈ capTx := by
  have h1 := Int.emod_nonneg n (by decide : (26 : Int) ≠ 0)
  have h2 := Int.emod_lt_of_pos n (by decide : (0 : Int) < 26)
  exact List.mem_of_getElem? (cap_at (n % 26).toNat (by omega))
noncomputable def poolBase (c : Int) : Tx := ([capI (c / 4), capI (c / 104), capI (c / 2704)] : Tx).take (c % 4).toNat
noncomputable def poolAt (c : Int) : Nat := (c / 70304 % (c % 4 + 1)).toNat
noncomputable def poolOne (c k : Int) : Tx := (poolBase c).take (poolAt c) ++ [capI (c / 7 + k * (1 + 2 * (c / 281216 % 6)))] ++ (poolBase c).drop (poolAt c)
noncomputable def lawPool (c : Int) (many : Nat) : List Tx := (rng 0 many).map (poolOne (c % 10 ^ 12))
theorem poolOne_name (c k : Int) : isName (poolOne c k) = true := by
  have hb : (poolBase c).length ≤ 3 := by unfold poolBase; rw [List.length_take]; exact Nat.min_le_right ..
  have hm : ∀ x ∈ poolBase c, x ∈ capTx := fun x hx => by
    have := List.mem_of_mem_take hx
    simp only [List.mem_cons, List.not_mem_nil, or_false] at this
    rcases this with rfl | rfl | rfl <;> exact capI_mem _
  have hl : (poolOne c k).length = (poolBase c).length + 1 := by
    unfold poolOne
    simp only [List.length_append, List.length_take, List.length_drop, List.length_singleton]
    omega
  unfold isName
  rw [decide_eq_true (by omega), decide_eq_true (by omega), Bool.true_and, Bool.true_and, List.all_eq_true]
  intro x hx
  refine decide_eq_true ?_
  unfold poolOne at hx
  rcases List.mem_append.mp hx with hx | hx
  · rcases List.mem_append.mp hx with hx | hx
    · exact hm x (List.mem_of_mem_take hx)
    · rw [List.mem_singleton.mp hx]; exact capI_mem _
  · exact hm x (List.mem_of_mem_drop hx)
noncomputable def poolS : Tw.Spec := fun A P _ => ∃ (c : Int) (many : Nat), A = [vl c, vl (many : Int)] ∧ many ≤ 100 ∧ P (rn (lawPool c many))
section
variable {P : Program} {w : World} {K : PySem.W.Frag} {mg : Str → Option Value} {base : Heap}
theorem ok_law_pool (T : Txt K mg) : Has P w K mg base 1 "_law_pool" ["_law_cell_here", "_law_many"] poolS := by
  refine Has.of T.f_law_pool sc_law_pool (fun A Q R ⟨c, m, e, _⟩ => by rw [e]; rfl) fun f cdv A outer s0 H E hr Γ Q R ⟨c0, m, e, hm, hq⟩ => ?_
  subst e
  unfold lawPool at hq
  refine st_set 2 (ev_str _) ?_ sc_law_pool.nd
  refine st_set 0 (ev_bin (o_mod (by decide)) (ev_var 0) (ev_pow ⟨by decide, by decide, by decide⟩ ev_int ev_int)) ?_ sc_law_pool.nd
  rw [show (10 : Int) ^ (12 : Int).toNat = 10 ^ 12 from rfl]
  generalize c0 % 10 ^ 12 = c at hq ⊢
  have h4 : 0 ≤ c % 4 ∧ c % 4 < 4 := ⟨Int.emod_nonneg _ (by decide), Int.emod_lt_of_pos _ (by decide)⟩
  refine st_set 3 (ev_bin (o_mod (by decide)) (ev_var 0) ev_int) ?_ sc_law_pool.nd
  refine st_set 4 (ev_bin (o_addS (x := [capI (c / 4)]) (y := [capI (c / 104)]) (sl_small (by simp))) (ev_ixS (x := capTx) (ev_var 2) (ev_bin (o_mod (by decide)) (ev_bin (o_div divK) (ev_var 0) ev_int) ev_int) (cap_atI _) (by decide +kernel)) (ev_ixS (x := capTx) (ev_var 2) (ev_bin (o_mod (by decide)) (ev_bin (o_div divK) (ev_var 0) ev_int) ev_int) (cap_atI _) (by decide +kernel))) ?_ sc_law_pool.nd
  refine st_set 4 (ev_bin (o_addS (x := [capI (c / 4)] ++ [capI (c / 104)]) (y := [capI (c / 2704)]) (sl_small (by simp))) (ev_var 4) (ev_ixS (x := capTx) (ev_var 2) (ev_bin (o_mod (by decide)) (ev_bin (o_div divK) (ev_var 0) ev_int) ev_int) (cap_atI _) (by decide +kernel))) ?_ sc_law_pool.nd
  refine st_set 4 (ev_eq (y := poolBase c) (ev_sliceS (o1 := none) (o2 := some (((c % 4).toNat : Nat) : Int)) (ev_var 4) trivial (ev_eq (ev_var 3) (by omega)) (sl_small (by simp))) cut_to) ?_ sc_law_pool.nd
  have hb : (poolBase c).length ≤ 3 := by unfold poolBase; rw [List.length_take]; exact Nat.min_le_right ..
  have ha := Int.emod_nonneg (c / 70304) (by omega : c % 4 + 1 ≠ 0)
  refine st_set 5 (ev_eq (y := ((poolAt c : Nat) : Int)) (ev_bin (o_mod (y := c % 4 + 1) (by omega)) (ev_bin (o_div divK) (ev_var 0) ev_int) (ev_bin o_add (ev_var 3) ev_int)) (by unfold poolAt; omega)) ?_ sc_law_pool.nd
  have hst : 0 ≤ c / 281216 % 6 ∧ c / 281216 % 6 < 6 := ⟨Int.emod_nonneg _ (by decide), Int.emod_lt_of_pos _ (by decide)⟩
  refine st_set 6 (ev_bin o_add ev_int (ev_bin (o_mul mulL) ev_int (ev_bin (o_mod (by decide)) (ev_bin (o_div divK) (ev_var 0) ev_int) ev_int))) ?_ sc_law_pool.nd
  refine st_retE (en_lc (xs := rng 0 m) (α := Int) (β := Tx) (own := [("_law_k", 7)]) (f := poolOne c) (src_range (n := (m : Int)) T.b_range (ev_var 1) (by omega) (by omega)) (tg_name 7) (fun _ _ _ _ _ => pgn 7 sc_law_pool.nd)
    (fun x hx _ _ _ _ _ => ?_) sc_law_pool.nd (ok := bk_law_pool (by decide +kernel)) (hz := by rw [rng_len]; exact sl_small (by omega))) hq
  refine ev_bin (o_addS (x := (poolBase c).take (poolAt c) ++ [capI (c / 7 + x * (1 + 2 * (c / 281216 % 6)))]) (y := (poolBase c).drop (poolAt c)) (sl_small ?_)) (ev_bin (o_addS (x := (poolBase c).take (poolAt c)) (y := [capI (c / 7 + x * (1 + 2 * (c / 281216 % 6)))]) (sl_small ?_)) (ev_eq (ev_sliceS (o1 := none) (o2 := some ((poolAt c : Nat) : Int)) (ev_var 4) trivial (ev_var 5) (sl_small (by omega))) cut_to)
    (ev_ixS (x := capTx) (ev_var 2) (ev_bin (o_mod (by decide)) (ev_bin o_add (ev_bin (o_div divK) (ev_var 0) ev_int) (ev_bin (o_mul (x := x) (y := 1 + 2 * (c / 281216 % 6)) (.inr (by omega))) (ev_var 7) (ev_var 6))) ev_int) (cap_atI _) (by decide +kernel))) (ev_eq (ev_sliceS (o1 := some ((poolAt c : Nat) : Int)) (o2 := none) (ev_var 4) (ev_var 5) trivial (sl_small (by omega))) cut_from)
  · simp only [List.length_append, List.length_take, List.length_drop, List.length_singleton]; omega
  · simp only [List.length_take, List.length_singleton]; omega
end
theorem list_atI {A : Type} {xs : List A} {n : Int} (h : 0 ≤ n) (h2 : n < xs.length) : ∃ x, atI xs n = some x ∧ x ∈ xs := by
  have hlt : n.toNat < xs.length := by omega
  refine ⟨xs[n.toNat], ?_, List.getElem_mem _⟩
  have := atI_nat (xs := xs) (j := n.toNat) (List.getElem?_eq_getElem hlt)
  rwa [show ((n.toNat : Nat) : Int) = n by omega] at this
noncomputable def smStep (c : Int) : Int := 1 + 2 * (c / 26 % 6)
noncomputable def smSigns (c : Int) : Tx := (rng 0 (1 + c / 156 % 4).toNat).map fun k => 97 + ((c + k * smStep c) % 26).toNat
theorem abc_at : ∀ n, n < 26 → smallTx[n]? = some (97 + n) := by decide +kernel
theorem smSigns_len {c : Int} : 1 ≤ (smSigns c).length ∧ (smSigns c).length ≤ 4 := by
  have h1 := Int.emod_nonneg (c / 156) (by decide : (4 : Int) ≠ 0)
  have h2 := Int.emod_lt_of_pos (c / 156) (by decide : (0 : Int) < 4)
  unfold smSigns
  rw [List.length_map, rng_len]
  omega
theorem smSigns_in {c : Int} : ∀ x ∈ smSigns c, x ∈ smallTx := fun x hx => by
  unfold smSigns at hx
  obtain ⟨k, _, rfl⟩ := List.mem_map.mp hx
  have h1 := Int.emod_nonneg (c + k * smStep c) (by decide : (26 : Int) ≠ 0)
  have h2 := Int.emod_lt_of_pos (c + k * smStep c) (by decide : (0 : Int) < 26)
  exact List.mem_of_getElem? (abc_at _ (by omega))
noncomputable def smSignsS : Tw.Spec := fun A P _ => ∃ (c : Int), A = [vl c] ∧ P (rv (smSigns c))
section
variable {P : Program} {w : World} {K : PySem.W.Frag} {mg : Str → Option Value} {base : Heap}
theorem ok_law_signs (T : Txt K mg) : Has P w K mg base 1 "_law_signs" ["_law_cell_here"] smSignsS := by
  refine Has.of T.f_law_signs sc_law_signs (fun A Q R ⟨c, e, _⟩ => by rw [e]; rfl) fun f cdv A outer s0 H E hr Γ Q R ⟨c, e, hq⟩ => ?_
  subst e
  have h1 := Int.emod_nonneg (c / 156) (by decide : (4 : Int) ≠ 0)
  have h2 := Int.emod_lt_of_pos (c / 156) (by decide : (0 : Int) < 4)
  have h3 := Int.emod_nonneg (c / 26) (by decide : (6 : Int) ≠ 0)
  have h4 := Int.emod_lt_of_pos (c / 26) (by decide : (0 : Int) < 6)
  have hst : 0 ≤ smStep c ∧ smStep c < 100 := by unfold smStep; omega
  refine st_set 1 (ev_str _) ?_ sc_law_signs.nd
  refine st_set 2 (x := smStep c) (ev_bin o_add ev_int (ev_bin (o_mul mulL) ev_int (ev_bin (o_mod (by decide)) (ev_bin (o_div divK) (ev_var 0) ev_int) ev_int))) ?_ sc_law_signs.nd
  refine st_retV (ev_join (ev_str "") (ev_of_en (en_lc (α := Int) (β := Tx) (own := [("_law_k", 3)]) (f := fun k => [97 + ((c + k * smStep c) % 26).toNat]) (src_range T.b_range (ev_bin o_add ev_int (ev_bin (o_mod (by decide)) (ev_bin (o_div divK) (ev_var 0) ev_int) ev_int)) (by omega) (by omega)) (tg_name 3) (fun _ _ _ _ _ => pgn 3 sc_law_signs.nd)
    (fun x hx _ _ _ _ _ => ev_ixS (x := smallTx) (ev_var 1) (ev_bin (o_mod (by decide)) (ev_bin o_add (ev_var 0) (ev_bin (o_mul (x := x) (y := smStep c) (.inr (by omega))) (ev_var 3) (ev_var 2))) ev_int) ?_ (by decide +kernel)) sc_law_signs.nd (ok := bk_law_signs (by decide +kernel)) (hz := ?_))) ?_) ?_
  · have h1 := Int.emod_nonneg (c + x * smStep c) (by decide : (26 : Int) ≠ 0)
    have h2 := Int.emod_lt_of_pos (c + x * smStep c) (by decide : (0 : Int) < 26)
    have := atI_nat (abc_at ((c + x * smStep c) % 26).toNat (by omega))
    rwa [show ((((c + x * smStep c) % 26).toNat : Nat) : Int) = (c + x * smStep c) % 26 by omega] at this
  · rw [rng_len]; exact sl_small (by omega)
  · show _ + _ * 0 ≤ _
    rw [sum_ones, rng_len]; omega
  · have e : joinL (tx "") ((rng 0 (1 + c / 156 % 4).toNat).map fun k => ([97 + ((c + k * smStep c) % 26).toNat] : Tx)) = smSigns c := by
      show joinL [] _ = _
      rw [joinOnes]
      rfl
    rw [e]
    exact hq
end
noncomputable def costsTx : Tx := tx "123456789"
noncomputable def turnsTx : Tx := tx "01234567"
noncomputable def joinC (c : Nat) : List Tx → Tx
  | [] => []
  | [x] => x
  | x :: y :: r => x ++ c :: joinC c (y :: r)
theorem splitC_ne {c : Nat} : ∀ (l acc : Tx), splitC c acc l ≠ []
  | [], acc => by simp [splitC]
  | d :: r, acc => by
    rw [splitC]
    split
    · simp
    · exact splitC_ne r _
theorem splitC_join {c : Nat} : ∀ (l acc : Tx), joinC c (splitC c acc l) = acc ++ l
  | [], acc => by simp [splitC, joinC]
  | d :: r, acc => by
    rw [splitC]
    split
    · rename_i h
      have ih := splitC_join (c := c) r []
      have hn := splitC_ne (c := c) r []
      match hs : splitC c [] r, hn with
      | y :: ys, _ =>
        rw [hs] at ih
        show acc ++ c :: joinC c (y :: ys) = _
        rw [ih, h]; rfl
    · rw [splitC_join r (acc ++ [d])]; simp
theorem splitC_app {c : Nat} : ∀ (a b acc : Tx), c ∉ a → splitC c acc (a ++ c :: b) = (acc ++ a) :: splitC c [] b
  | [], b, acc, _ => by simp [splitC]
  | d :: a, b, acc, h => by
    have hd : ¬ d = c := fun e => h (by simp [e])
    rw [List.cons_append, splitC, if_neg hd, splitC_app a b (acc ++ [d]) (fun z => h (List.mem_cons_of_mem _ z))]
    simp
theorem splitC_last {c : Nat} : ∀ (a acc : Tx), c ∉ a → splitC c acc a = [acc ++ a]
  | [], acc, _ => by simp [splitC]
  | d :: a, acc, h => by
    have hd : ¬ d = c := fun e => h (by simp [e])
    rw [splitC, if_neg hd, splitC_last a (acc ++ [d]) (fun z => h (List.mem_cons_of_mem _ z))]
    simp
theorem cap_nb : (32 : Nat) ∉ capTx := by decide +kernel
theorem small_nb : (32 : Nat) ∉ smallTx := by decide +kernel
theorem name_nb {x : Tx} (h : isName x = true) : (32 : Nat) ∉ x := fun z => by
  unfold isName at h
  rw [Bool.and_eq_true, List.all_eq_true] at h
  exact cap_nb (of_decide_eq_true (h.2 _ z))
theorem sign_nb {x : Tx} (h : signOk x = true) : (32 : Nat) ∉ x := fun z => by
  unfold signOk at h
  rw [Bool.and_eq_true, List.all_eq_true] at h
  exact small_nb (of_decide_eq_true (h.2 _ z))
noncomputable def RuleD.body : RuleD → Tx
  | .cell _ _ s => s
  | .beside _ _ a b => a ++ 32 :: 124 :: 32 :: b
  | .above _ _ a b => a ++ 32 :: 47 :: 32 :: b
  | .turn _ _ a t => a ++ 32 :: (tx "turned" ++ 32 :: [48 + t.toNat])
noncomputable def RuleD.bodyW : RuleD → List Tx
  | .cell _ _ s => [s]
  | .beside _ _ a b => [a, [124], b]
  | .above _ _ a b => [a, [47], b]
  | .turn _ _ a t => [a, tx "turned", [48 + t.toNat]]
noncomputable def RuleD.words (r : RuleD) : List Tx := r.name :: [48 + r.cost.toNat, 58] :: r.bodyW
theorem strI_of {c : Int} (h : 0 ≤ c ∧ c ≤ 9) : strI c = [48 + c.toNat] := by
  have := strI_one c.toNat (by omega)
  rwa [show ((c.toNat : Nat) : Int) = c by omega] at this
theorem told_eq {r : RuleD} (h : r.good = true) : r.told = r.name ++ 32 :: (48 + r.cost.toNat) :: 58 :: 32 :: r.body := by
  obtain ⟨h1, h2, h3⟩ := RuleD.bounds h
  have hc := strI_of (c := r.cost) (by omega)
  have hb : r.begun = r.name ++ 32 :: (48 + r.cost.toNat) :: 58 :: [32] := by
    unfold RuleD.begun
    rw [hc]
    show r.name ++ [32] ++ [48 + r.cost.toNat] ++ [58, 32] = _
    simp
  cases r with
  | cell n c s =>
    show RuleD.begun _ ++ s = _
    rw [hb]; simp [RuleD.body]
  | beside n c a b =>
    show RuleD.begun _ ++ a ++ [32, 124, 32] ++ b = _
    rw [hb]; simp [RuleD.body]
  | above n c a b =>
    show RuleD.begun _ ++ a ++ [32, 47, 32] ++ b = _
    rw [hb]; simp [RuleD.body]
  | turn n c a t =>
    have ht : strI t = [48 + t.toNat] := strI_of (by
      simp only [RuleD.good, Bool.and_eq_true, decide_eq_true_eq] at h
      omega)
    show RuleD.begun _ ++ a ++ (32 :: (tx "turned" ++ [32])) ++ strI t = _
    rw [hb, ht]; simp [RuleD.body]
theorem body_split {r : RuleD} (h : r.good = true) : splitC 32 [] r.body = r.bodyW := by
  cases r with
  | cell n c s =>
    simp only [RuleD.good, Bool.and_eq_true] at h
    exact splitC_last s [] (sign_nb h.1)
  | beside n c a b =>
    simp only [RuleD.good, Bool.and_eq_true] at h
    show splitC 32 [] (a ++ 32 :: ([124] ++ 32 :: b)) = _
    rw [splitC_app a _ [] (name_nb h.2.1), splitC_app [124] b [] (by decide), splitC_last b [] (name_nb h.2.2)]
    rfl
  | above n c a b =>
    simp only [RuleD.good, Bool.and_eq_true] at h
    show splitC 32 [] (a ++ 32 :: ([47] ++ 32 :: b)) = _
    rw [splitC_app a _ [] (name_nb h.2.1), splitC_app [47] b [] (by decide), splitC_last b [] (name_nb h.2.2)]
    rfl
  | turn n c a t =>
    simp only [RuleD.good, Bool.and_eq_true] at h
    show splitC 32 [] (a ++ 32 :: (tx "turned" ++ 32 :: [48 + t.toNat])) = _
    rw [splitC_app a _ [] (name_nb h.2.2), splitC_app (tx "turned") _ [] (by decide +kernel), splitC_last [48 + t.toNat] [] (by simp; omega)]
    rfl
theorem told_split {r : RuleD} (h : r.good = true) : splitC 32 [] r.told = r.words := by
  rw [told_eq h, splitC_app r.name _ [] (name_nb (RuleD.good_of h).1)]
  show _ :: splitC 32 [] ([48 + r.cost.toNat, 58] ++ 32 :: r.body) = _
  rw [splitC_app _ _ [] (by
    have := (RuleD.bounds h).2
    simp; omega), body_split h]
  rfl
theorem digit_int : ∀ n : Nat, n < 10 → PySem.intText? (sx [48 + n]) = some (n : Int) := by decide +kernel
theorem cut_last {w : Tx} : cutL w none (some (-1)) ++ cutL w (some (-1)) none = w := by
  unfold cutL
  have e1 : HT.sIx w.length 0 (none : Option Int) = 0 := rfl
  have e2 : HT.sIx w.length w.length (none : Option Int) = w.length := rfl
  rw [e1, e2, List.drop_zero, Nat.sub_zero]
  have e3 : HT.sIx w.length w.length (some (-1)) = HT.sIx w.length 0 (some (-1)) := rfl
  rw [e3]
  generalize HT.sIx w.length 0 (some (-1)) = n
  rw [List.take_of_length_le (l := w.drop n) (by rw [List.length_drop]; omega), List.take_append_drop]
theorem cut_last2 {a b : Nat} : cutL [a, b] none (some (-1)) = [a] ∧ cutL [a, b] (some (-1)) none = [b] := ⟨rfl, rfl⟩
noncomputable def numS : Tw.Spec := fun A P R => ∃ (x figs : Tx), A = [vl x, vl figs] ∧ x.length ≤ 1000 ∧ figs.length ≤ 1000 ∧ (∀ d ∈ figs, 48 ≤ d ∧ d ≤ 57) ∧ (∀ d ∈ figs, x = [d] → P (rv ((d - 48 : Nat) : Int))) ∧ ((∀ d ∈ figs, x ≠ [d]) → R NoRule)
noncomputable def readS : Tw.Spec := fun A P R => ∃ (x : Tx), A = [vl x] ∧ x.length ≤ 900 ∧ (∀ r : RuleD, r.good = true → r.told = x → P (rv r)) ∧ ((∀ r : RuleD, r.good = true → r.told ≠ x) → R NoRule)
section
variable {P : Program} {w : World} {K : PySem.W.Frag} {mg : Str → Option Value} {base : Heap}
theorem ok_number_in (T : Txt K mg) : Has P w K mg base 1 "number_in" ["text", "figures"] numS := by
  refine Has.ofX T.f_number_in sc_number_in (fun A Q R ⟨x, figs, e, _⟩ => by rw [e]; rfl) fun f cdv A outer s0 H E hr Γ Q R ⟨x, figs, e, hx, hf, hd, h1, h2⟩ => ?_
  subst e
  by_cases hl : x.length = 1
  · obtain ⟨d, rfl⟩ : ∃ d, x = [d] := by
      match x, hl with
      | [d], _ => exact ⟨d, rfl⟩
    by_cases hm : d ∈ figs
    · refine st_if (k := false) (et_eq (et_or (et_cmp o_ne (ev_lenS T.b_len (ev_var 0) (sl_small hx)) ev_int) fun _ => et_cmp (o_notInS (c := d)) (ev_var 0) (ev_var 1)) (by simp [hm])) (fun h => nomatch h) (fun _ => st_nil ?_)
      have hb := hd d hm
      have := digit_int (d - 48) (by omega)
      rw [show 48 + (d - 48) = d by omega] at this
      exact st_retV (ev_intS T.b_int (ev_var 0) this (by decide : 1 ≤ 640)) (h1 d hm rfl)
    · refine st_if (k := true) (et_eq (et_or (et_cmp o_ne (ev_lenS T.b_len (ev_var 0) (sl_small hx)) ev_int) fun _ => et_cmp (o_notInS (c := d)) (ev_var 0) (ev_var 1)) (by simp [hm])) (fun _ => ?_) (fun h => nomatch h)
      exact st_raise0 T.x_NoRule T.p_NoRule (h2 fun d' hd' e => hm (by rw [List.cons.inj e |>.1]; exact hd'))
  · refine st_if (k := true) (et_eq (et_or (m := false) (et_cmp o_ne (ev_lenS T.b_len (ev_var 0) (sl_small hx)) ev_int) fun h => absurd h ?_) ?_) (fun _ => ?_) (fun h => nomatch h)
    · simp; omega
    · simp; omega
    · exact st_raise0 T.x_NoRule T.p_NoRule (h2 fun d' _ e => hl (by rw [e]; rfl))
theorem ok_read_rule (T : Txt K mg) : Has P w K mg base 6 "read_rule" ["text"] readS := by
  refine Has.ofX T.f_read_rule sc_read_rule (fun A Q R ⟨x, e, _⟩ => by rw [e]; rfl) fun f cdv A outer s0 H E hr Γ Q R ⟨x, e, hx, h1, h2⟩ => ?_
  subst e
  obtain ⟨hwl, hwe⟩ := splitC_len (c := 32) x []
  have hj := splitC_join (c := 32) x []
  have hw : ∀ r : RuleD, r.good = true → r.told = x → splitC 32 [] x = r.words := fun r hg e => by rw [← e]; exact told_split hg
  refine st_set 1 (x := splitC 32 [] x) (ev_of_en (en_split (c := 32) (ev_var 0) (ev_str " ") (by decide) (sl_small (by omega)))) ?_ sc_read_rule.nd
  generalize hws : splitC 32 [] x = ws at hwl hwe hj hw
  rw [List.nil_append] at hj
  by_cases h3 : ws.length < 3
  · refine st_if (k := true) (et_eq (et_or (m := false) (et_cmp o_lt (ev_len T.b_len (ev_var 1)) ev_int) fun h => absurd h ?_) ?_) (fun _ => ?_) (fun h => nomatch h)
    · simp; omega
    · simp; omega
    · refine st_raise0 T.x_NoRule T.p_NoRule (h2 fun r hg e => ?_)
      have := hw r hg e
      have hl : 3 ≤ r.words.length := by cases r <;> simp [RuleD.words, RuleD.bodyW]
      rw [← this] at hl
      omega
  obtain ⟨w0, w1, w2, wr, rfl⟩ : ∃ w0 w1 w2 wr, ws = w0 :: w1 :: w2 :: wr := by
    match ws, h3 with
    | a :: b :: c :: r, _ => exact ⟨a, b, c, r, rfl⟩
    | [], h3 => exact absurd (by decide) h3
    | [_], h3 => exact absurd (by simp) h3
    | [_, _], h3 => exact absurd (by simp) h3
  have a0 : atI (w0 :: w1 :: w2 :: wr) 0 = some w0 := atI_nat (j := 0) rfl
  have a1 : atI (w0 :: w1 :: w2 :: wr) 1 = some w1 := atI_nat (j := 1) rfl
  have l0 : w0.length ≤ 900 := by have := hwe w0 (by simp); simp at this; omega
  have l1 : w1.length ≤ 900 := by have := hwe w1 (by simp); simp at this; omega
  have l2 : w2.length ≤ 900 := by have := hwe w2 (by simp); simp at this; omega
  have cl : ∀ a b, (cutL w1 a b).length ≤ 900 := fun a b => Nat.le_trans cutL_len l1
  have w1of : ∀ r : RuleD, r.good = true → r.told = x → w1 = [48 + r.cost.toNat, 58] ∧ w0 = r.name ∧ w2 :: wr = r.bodyW := fun r hg e => by
    have := hw r hg e
    unfold RuleD.words at this
    injection this with q1 q2
    injection q2 with q3 q4
    exact ⟨q3, q1, q4⟩
  by_cases hc : cutL w1 (some (-1)) none = [58]
  case neg =>
    refine st_if (k := true) (et_eq (et_or (et_cmp o_lt (ev_len T.b_len (ev_var 1)) ev_int) fun _ => et_cmp o_neS (ev_sliceS (o1 := some (-1)) (o2 := none) (ev_ixL (ev_var 1) ev_int a1) (ev_neg ev_int) trivial (sl_small (by omega))) (ev_str ":")) ?_) (fun _ => ?_) (fun h => nomatch h)
    · have : ¬ cutL w1 (some (-1)) none = tx ":" := hc
      simp [this]
    · refine st_raise0 T.x_NoRule T.p_NoRule (h2 fun r hg e => hc ?_)
      rw [(w1of r hg e).1]
      exact cut_last2.2
  refine st_if (k := false) (et_eq (et_or (et_cmp o_lt (ev_len T.b_len (ev_var 1)) ev_int) fun _ => et_cmp o_neS (ev_sliceS (o1 := some (-1)) (o2 := none) (ev_ixL (ev_var 1) ev_int a1) (ev_neg ev_int) trivial (sl_small (by omega))) (ev_str ":")) ?_) (fun h => nomatch h) (fun _ => st_nil ?_)
  · have : cutL w1 (some (-1)) none = tx ":" := hc
    rw [this]
    simp at h3 ⊢
    omega
  refine st_set 2 (ev_ixL (ev_var 1) ev_int a0) ?_ sc_read_rule.nd
  have figs9 : ∀ d ∈ costsTx, 49 ≤ d ∧ d ≤ 57 := by decide +kernel
  have in9 : ∀ n, n < 10 → 1 ≤ n → 48 + n ∈ costsTx := by decide +kernel
  have figs7 : ∀ d ∈ turnsTx, 48 ≤ d ∧ d ≤ 55 := by decide +kernel
  have in7 : ∀ n, n < 8 → 48 + n ∈ turnsTx := by decide +kernel
  by_cases hn : ∃ d ∈ costsTx, cutL w1 none (some (-1)) = [d]
  case neg =>
    have hn' : ∀ d ∈ costsTx, cutL w1 none (some (-1)) ≠ [d] := fun d hd e => hn ⟨d, hd, e⟩
    refine st_setR 3 (R := fun y => y = NoRule) (exx_call (ok_number_in T) (hr.mono (by decide)) (ea_cons (ev_sliceS (o1 := none) (o2 := some (-1)) (ev_ixL (ev_var 1) ev_int a1) trivial (ev_neg ev_int) (sl_small (by omega))) (ea_cons (ev_gstrE T.c_COSTS) ea_nil)) fun P' R' _ h => ⟨_, costsTx, rfl, by have := cl none (some (-1)); omega, by decide +kernel, fun d hd => by have := figs9 d hd; omega, fun d hd e => absurd e (hn' d hd), fun _ => h _ rfl⟩) (fun y e => e ▸ h2 fun r hg e => ?_) sc_read_rule.nd
    have hb := RuleD.bounds hg
    have hw1 := (w1of r hg e).1
    refine hn' (48 + r.cost.toNat) (in9 _ (by omega) (by omega)) ?_
    rw [hw1]
    exact cut_last2.1
  obtain ⟨d, hd, ed⟩ := hn
  have hd9 := figs9 d hd
  have ew1 : w1 = [d, 58] := by
    rw [← cut_last (w := w1), hc, ed]; rfl
  refine st_set 3 (x := ((d - 48 : Nat) : Int)) (ev_call (ok_number_in T) (hr.mono (by decide)) (ea_cons (ev_sliceS (o1 := none) (o2 := some (-1)) (ev_ixL (ev_var 1) ev_int a1) trivial (ev_neg ev_int) (sl_small (by omega))) (ea_cons (ev_gstrE T.c_COSTS) ea_nil)) fun P' R' h => ⟨_, costsTx, rfl, by have := cl none (some (-1)); omega, by decide +kernel, fun d hd => by have := figs9 d hd; omega, fun d' hd' e' => by
    have : d = d' := by rw [ed] at e'; exact (List.cons.inj e').1
    exact this ▸ h, fun z => absurd ed (z d hd)⟩) ?_ sc_read_rule.nd
  obtain ⟨k, ek, hk1, hk9⟩ : ∃ k : Nat, d = 48 + k ∧ 1 ≤ k ∧ k ≤ 9 := ⟨d - 48, by omega, by omega, by omega⟩
  have ek' : d - 48 = k := by omega
  rw [ek']
  rw [ek] at ew1
  have kOf : ∀ r : RuleD, r.good = true → r.told = x → r.cost = (k : Int) := fun r hg e => by
    have hb := RuleD.bounds hg
    have := (w1of r hg e).1
    rw [ew1] at this
    have := (List.cons.inj this).1
    omega
  have toldOf : ∀ r : RuleD, r.good = true → r.name = w0 → r.cost = (k : Int) → r.bodyW = w2 :: wr → r.told = x := fun r hg q1 q2 q3 => by
    have e1 := splitC_join (c := 32) r.told []
    rw [told_split hg] at e1
    rw [List.nil_append] at e1
    rw [← e1, ← hj]
    unfold RuleD.words
    rw [q1, q2, q3, ew1]
    rfl
  have ecut : cutL (w0 :: w1 :: w2 :: wr) (some ((2 : Nat) : Int)) none = w2 :: wr := by rw [cut_from]; rfl
  refine st_set 4 (x := w2 :: wr) (ev_of_en (en_eq (en_sliceL (o1 := some ((2 : Nat) : Int)) (o2 := none) (ev_var 1) ev_int trivial) ecut)) ?_ sc_read_rule.nd
  have c0 : atI (w2 :: wr) 0 = some w2 := atI_nat (j := 0) rfl
  cases wr with
  | nil =>
    refine st_if (k := true) (et_eq (et_cmp o_eq (ev_len T.b_len (ev_var 4)) ev_int) rfl) (fun _ => ?_) (fun h => nomatch h)
    cases hg : (RuleD.cell w0 (k : Int) w2).good with
    | true => exact st_retV (ev_makeV T.o_CellRule (ok_CellRule_init T) (hr.mono (by decide)) rfl (ea_cons (ev_var 2) (ea_cons (ev_var 3) (ea_cons (ev_ixL (ev_var 4) ev_int c0) ea_nil))) fun C hC ad dx P' R' h => ⟨C, ad, dx, w0, k, w2, rfl, hC, by omega, by omega, fun _ => h, fun z => by rw [hg] at z; cases z⟩) (h1 _ hg (toldOf _ hg rfl rfl rfl))
    | false =>
      refine st_retX (P := fun _ => False) (R := fun y => y = NoRule) (exx_make (fs := []) T.o_CellRule (ok_CellRule_init T) (hr.mono (by decide)) (ea_cons (ev_var 2) (ea_cons (ev_var 3) (ea_cons (ev_ixL (ev_var 4) ev_int c0) ea_nil))) fun C hC ad dx P' R' _ h => ⟨C, ad, dx, w0, k, w2, rfl, hC, by omega, by omega, fun z => by (rw [hg] at z; cases z), fun _ => h _ rfl⟩) (fun _ z => z.elim) fun y e => e ▸ h2 fun r hg' e' => ?_
      obtain ⟨q1, q2, q3⟩ := w1of r hg' e'
      have q4 := kOf r hg' e'
      cases r with
      | cell n c s =>
        obtain rfl : w0 = n := q2
        obtain rfl : c = (k : Int) := q4
        obtain rfl : w2 = s := (List.cons.inj q3).1
        rw [hg] at hg'; cases hg'
      | _ => simp [RuleD.bodyW] at q3
  | cons m wr =>
  refine st_if (k := false) (et_eq (et_cmp o_eq (ev_len T.b_len (ev_var 4)) ev_int) (by simp; omega)) (fun h => nomatch h) (fun _ => st_nil ?_)
  match wr with
  | [] =>
    refine st_if (k := true) (et_eq (et_cmp o_ne (ev_len T.b_len (ev_var 4)) ev_int) rfl) (fun _ => ?_) (fun h => nomatch h)
    refine st_raise0 T.x_NoRule T.p_NoRule (h2 fun r hg e => ?_)
    have := (w1of r hg e).2.2
    cases r <;> simp [RuleD.bodyW] at this
  | b :: z :: wr =>
    refine st_if (k := true) (et_eq (et_cmp o_ne (ev_len T.b_len (ev_var 4)) ev_int) (by simp; omega)) (fun _ => ?_) (fun h => nomatch h)
    refine st_raise0 T.x_NoRule T.p_NoRule (h2 fun r hg e => ?_)
    have := (w1of r hg e).2.2
    cases r <;> simp [RuleD.bodyW] at this
  | [b] =>
  refine st_if (k := false) (et_eq (et_cmp o_ne (ev_len T.b_len (ev_var 4)) ev_int) rfl) (fun h => nomatch h) (fun _ => st_nil ?_)
  have c1 : atI [w2, m, b] 1 = some m := atI_nat (j := 1) rfl
  have c2 : atI [w2, m, b] 2 = some b := atI_nat (j := 2) rfl
  have lb : b.length ≤ 900 := by have := hwe b (by simp); simp at this; omega
  by_cases m1 : m = [124]
  · refine st_if (k := true) (et_eq (et_cmp o_eqS (ev_ixL (ev_var 4) ev_int c1) (ev_str "|")) (decide_eq_true m1)) (fun _ => ?_) (fun h => nomatch h)
    cases hg : (RuleD.beside w0 (k : Int) w2 b).good with
    | true => exact st_retV (ev_makeV T.o_BesideRule (ok_BesideRule_init T) (hr.mono (by decide)) rfl (ea_cons (ev_var 2) (ea_cons (ev_var 3) (ea_cons (ev_ixL (ev_var 4) ev_int c0) (ea_cons (ev_ixL (ev_var 4) ev_int c2) ea_nil)))) fun C hC ad dx P' R' h => ⟨C, ad, dx, w0, k, w2, b, rfl, hC, by omega, by omega, by omega, fun _ => h, fun z => by rw [hg] at z; cases z⟩) (h1 _ hg (toldOf _ hg rfl rfl (by rw [m1]; rfl)))
    | false =>
      refine st_retX (P := fun _ => False) (R := fun y => y = NoRule) (exx_make (fs := []) T.o_BesideRule (ok_BesideRule_init T) (hr.mono (by decide)) (ea_cons (ev_var 2) (ea_cons (ev_var 3) (ea_cons (ev_ixL (ev_var 4) ev_int c0) (ea_cons (ev_ixL (ev_var 4) ev_int c2) ea_nil)))) fun C hC ad dx P' R' _ h => ⟨C, ad, dx, w0, k, w2, b, rfl, hC, by omega, by omega, by omega, fun z => by (rw [hg] at z; cases z), fun _ => h _ rfl⟩) (fun _ z => z.elim) fun y e => e ▸ h2 fun r hg' e' => ?_
      obtain ⟨q1, q2, q3⟩ := w1of r hg' e'
      have q4 := kOf r hg' e'
      cases r with
      | beside n c u v =>
        obtain rfl : w0 = n := q2
        obtain rfl : c = (k : Int) := q4
        simp only [RuleD.bodyW, List.cons.injEq, and_true] at q3
        rw [q3.1, q3.2.2] at hg
        rw [hg] at hg'; cases hg'
      | cell n c s => simp [RuleD.bodyW] at q3
      | above n c u v =>
        simp only [RuleD.bodyW, List.cons.injEq, and_true] at q3
        rw [m1] at q3
        exact absurd q3.2.1 (by decide)
      | turn n c u t =>
        simp only [RuleD.bodyW, List.cons.injEq, and_true] at q3
        rw [m1] at q3
        exact absurd q3.2.1 (by decide +kernel)
  refine st_if (k := false) (et_eq (et_cmp o_eqS (ev_ixL (ev_var 4) ev_int c1) (ev_str "|")) (decide_eq_false m1)) (fun h => nomatch h) (fun _ => st_nil ?_)
  by_cases m2 : m = [47]
  · refine st_if (k := true) (et_eq (et_cmp o_eqS (ev_ixL (ev_var 4) ev_int c1) (ev_str "/")) (decide_eq_true m2)) (fun _ => ?_) (fun h => nomatch h)
    cases hg : (RuleD.above w0 (k : Int) w2 b).good with
    | true => exact st_retV (ev_makeV T.o_AboveRule (ok_AboveRule_init T) (hr.mono (by decide)) rfl (ea_cons (ev_var 2) (ea_cons (ev_var 3) (ea_cons (ev_ixL (ev_var 4) ev_int c0) (ea_cons (ev_ixL (ev_var 4) ev_int c2) ea_nil)))) fun C hC ad dx P' R' h => ⟨C, ad, dx, w0, k, w2, b, rfl, hC, by omega, by omega, by omega, fun _ => h, fun z => by rw [hg] at z; cases z⟩) (h1 _ hg (toldOf _ hg rfl rfl (by rw [m2]; rfl)))
    | false =>
      refine st_retX (P := fun _ => False) (R := fun y => y = NoRule) (exx_make (fs := []) T.o_AboveRule (ok_AboveRule_init T) (hr.mono (by decide)) (ea_cons (ev_var 2) (ea_cons (ev_var 3) (ea_cons (ev_ixL (ev_var 4) ev_int c0) (ea_cons (ev_ixL (ev_var 4) ev_int c2) ea_nil)))) fun C hC ad dx P' R' _ h => ⟨C, ad, dx, w0, k, w2, b, rfl, hC, by omega, by omega, by omega, fun z => by (rw [hg] at z; cases z), fun _ => h _ rfl⟩) (fun _ z => z.elim) fun y e => e ▸ h2 fun r hg' e' => ?_
      obtain ⟨q1, q2, q3⟩ := w1of r hg' e'
      have q4 := kOf r hg' e'
      cases r with
      | above n c u v =>
        obtain rfl : w0 = n := q2
        obtain rfl : c = (k : Int) := q4
        simp only [RuleD.bodyW, List.cons.injEq, and_true] at q3
        rw [q3.1, q3.2.2] at hg
        rw [hg] at hg'; cases hg'
      | cell n c s => simp [RuleD.bodyW] at q3
      | beside n c u v =>
        simp only [RuleD.bodyW, List.cons.injEq, and_true] at q3
        exact m1 q3.2.1
      | turn n c u t =>
        simp only [RuleD.bodyW, List.cons.injEq, and_true] at q3
        rw [m2] at q3
        exact absurd q3.2.1 (by decide +kernel)
  refine st_if (k := false) (et_eq (et_cmp o_eqS (ev_ixL (ev_var 4) ev_int c1) (ev_str "/")) (decide_eq_false m2)) (fun h => nomatch h) (fun _ => st_nil ?_)
  have turnOf : ∀ r : RuleD, r.good = true → r.told = x → ∃ t : Nat, t ≤ 7 ∧ r = .turn w0 k w2 t ∧ m = tx "turned" ∧ b = [48 + t] := fun r hg' e' => by
    obtain ⟨q1, q2, q3⟩ := w1of r hg' e'
    have q4 := kOf r hg' e'
    cases r with
    | turn n c u t =>
      have ht : 0 ≤ t ∧ t ≤ 7 := by
        simp only [RuleD.good, Bool.and_eq_true, decide_eq_true_eq] at hg'
        exact hg'.1
      simp only [RuleD.bodyW, List.cons.injEq, and_true] at q3
      refine ⟨t.toNat, by omega, ?_, q3.2.1, q3.2.2⟩
      obtain rfl : w0 = n := q2
      obtain rfl : c = (k : Int) := q4
      rw [q3.1, show ((t.toNat : Nat) : Int) = t by omega]
    | cell n c s => simp [RuleD.bodyW] at q3
    | beside n c u v =>
      simp only [RuleD.bodyW, List.cons.injEq, and_true] at q3
      exact absurd q3.2.1 m1
    | above n c u v =>
      simp only [RuleD.bodyW, List.cons.injEq, and_true] at q3
      exact absurd q3.2.1 m2
  by_cases m3 : m = tx "turned"
  case neg =>
    refine st_if (k := false) (et_eq (et_cmp o_eqS (ev_ixL (ev_var 4) ev_int c1) (ev_str "turned")) (decide_eq_false m3)) (fun h => nomatch h) (fun _ => st_nil ?_)
    exact st_raise0 T.x_NoRule T.p_NoRule (h2 fun r hg e => by
      obtain ⟨t, _, _, q, _⟩ := turnOf r hg e
      exact m3 q)
  refine st_if (k := true) (et_eq (et_cmp o_eqS (ev_ixL (ev_var 4) ev_int c1) (ev_str "turned")) (decide_eq_true m3)) (fun _ => ?_) (fun h => nomatch h)
  by_cases hb : ∃ d ∈ turnsTx, b = [d]
  case neg =>
    have hb' : ∀ d ∈ turnsTx, b ≠ [d] := fun d hd e => hb ⟨d, hd, e⟩
    refine st_retX (P := fun _ => False) (R := fun y => y = NoRule) (exx_makeA (R := fun y => y = NoRule) T.o_TurnRule (exa_v (ev_var 2) (exa_v (ev_var 3) (exa_v (ev_ixL (ev_var 4) ev_int c0) (exa_x (exx_call (ok_number_in T) (hr.mono (by decide)) (ea_cons (ev_ixL (ev_var 4) ev_int c2) (ea_cons (ev_gstrE T.c_TURNINGS) ea_nil)) fun P' R' _ h => ⟨b, turnsTx, rfl, by omega, by decide +kernel, fun d hd => by have := figs7 d hd; omega, fun d hd e => absurd e (hb' d hd), fun _ => h _ rfl⟩)))))) (fun _ z => z.elim) fun y e => e ▸ h2 fun r hg e => ?_
    obtain ⟨t, ht, _, _, q⟩ := turnOf r hg e
    exact hb' _ (in7 t (by omega)) q
  obtain ⟨d2, hd2, rfl⟩ := hb
  have hd7 := figs7 d2 hd2
  obtain ⟨t, rfl, ht⟩ : ∃ t : Nat, d2 = 48 + t ∧ t ≤ 7 := ⟨d2 - 48, by omega, by omega⟩
  have num : EV (cxOf (CXm P w K) P w K mg base N_read_rule "read_rule" (defScope s_read_rule) f cdv A outer s0 H E) [vl x, vl (w0 :: w1 :: w2 :: m :: [[48 + t]]), vl w0, vl (k : Int), vl [w2, m, [48 + t]]] = EV (cxOf (CXm P w K) P w K mg base N_read_rule "read_rule" (defScope s_read_rule) f cdv A outer s0 H E) [vl x, vl (w0 :: w1 :: w2 :: m :: [[48 + t]]), vl w0, vl (k : Int), vl [w2, m, [48 + t]]] := rfl
  cases hg : (RuleD.turn w0 (k : Int) w2 (t : Int)).good with
  | true =>
    exact st_retV (ev_makeV T.o_TurnRule (ok_TurnRule_init T) (hr.mono (by decide)) rfl (ea_cons (ev_var 2) (ea_cons (ev_var 3) (ea_cons (ev_ixL (ev_var 4) ev_int c0) (ea_cons (x := (t : Int)) (ev_call (ok_number_in T) (hr.mono (by decide)) (ea_cons (ev_ixL (ev_var 4) ev_int c2) (ea_cons (ev_gstrE T.c_TURNINGS) ea_nil)) fun P' R' h => ⟨_, turnsTx, rfl, by omega, by decide +kernel, fun d hd => by have := figs7 d hd; omega, fun d hd e => by
      have := (List.cons.inj e).1
      rw [← this, show 48 + t - 48 = t by omega]
      exact h, fun z => absurd rfl (z _ hd2)⟩) ea_nil)))) fun C hC ad dx P' R' h => ⟨C, ad, dx, w0, k, w2, t, rfl, hC, by omega, by omega, fun _ => h, fun z => by rw [hg] at z; cases z⟩) (h1 _ hg (toldOf _ hg rfl rfl (by rw [m3]; simp [RuleD.bodyW])))
  | false =>
    refine st_retX (P := fun _ => False) (R := fun y => y = NoRule) (exx_make (fs := []) T.o_TurnRule (ok_TurnRule_init T) (hr.mono (by decide)) (ea_cons (ev_var 2) (ea_cons (ev_var 3) (ea_cons (ev_ixL (ev_var 4) ev_int c0) (ea_cons (x := (t : Int)) (ev_call (ok_number_in T) (hr.mono (by decide)) (ea_cons (ev_ixL (ev_var 4) ev_int c2) (ea_cons (ev_gstrE T.c_TURNINGS) ea_nil)) fun P' R' h => ⟨_, turnsTx, rfl, by omega, by decide +kernel, fun d hd => by have := figs7 d hd; omega, fun d hd e => by
      have := (List.cons.inj e).1
      rw [← this, show 48 + t - 48 = t by omega]
      exact h, fun z => absurd rfl (z _ hd2)⟩) ea_nil)))) fun C hC ad dx P' R' _ h => ⟨C, ad, dx, w0, k, w2, t, rfl, hC, by omega, by omega, fun z => by (rw [hg] at z; cases z), fun _ => h _ rfl⟩) (fun _ z => z.elim) fun y e => e ▸ h2 fun r hg' e' => ?_
    obtain ⟨t', ht', er, _, q⟩ := turnOf r hg' e'
    have : t = t' := by have := (List.cons.inj q).1; omega
    subst this
    rw [er, hg] at hg'
    cases hg'
end
structure GramD where
  signs : Tx
  start : Tx
  rules : List RuleD
  names : List Tx
noncomputable def GramD.flds (g : GramD) : List (Str × Slot) := [("signs", vl g.signs), ("start", vl g.start), ("kept_rules", vl g.rules), ("kept_names", vl g.names)]
noncomputable instance : Inst GramD := ⟨fun _ => "Grammar", GramD.flds⟩
noncomputable def signsOk (x : Tx) : Bool := (decide (1 ≤ x.length) && decide (x.length ≤ 4)) && (decide x.Nodup && x.all fun c => decide (c ∈ smallTx))
noncomputable def addNew (met : List Tx) (n : Tx) : List Tx := if n ∈ met then met else met ++ [n]
noncomputable def metR (met : List Tx) (r : RuleD) : List Tx := (r.name :: r.parts).foldl addNew met
noncomputable def metL (start : Tx) (rs : List RuleD) : List Tx := rs.foldl metR [start]
theorem addNew_len (met : List Tx) (n : Tx) : (addNew met n).length ≤ met.length + 1 := by
  unfold addNew
  split
  · omega
  · rw [List.length_append]; exact Nat.le_refl _
theorem addAll_len : ∀ (ns met : List Tx), (ns.foldl addNew met).length ≤ met.length + ns.length
  | [], met => Nat.le_refl _
  | n :: ns, met => by
    have h1 := addAll_len ns (addNew met n)
    have h2 := addNew_len met n
    rw [List.foldl_cons, List.length_cons]
    omega
theorem RuleD.parts_len (r : RuleD) : r.parts.length ≤ 2 := by cases r <;> simp [RuleD.parts]
theorem metR_len (met : List Tx) (r : RuleD) : (metR met r).length ≤ met.length + 3 := by
  have h := addAll_len (r.name :: r.parts) met
  have := r.parts_len
  rw [List.length_cons] at h
  unfold metR
  omega
theorem metAll_len : ∀ (rs : List RuleD) (met : List Tx), (rs.foldl metR met).length ≤ met.length + 3 * rs.length
  | [], met => by simp
  | r :: rs, met => by
    have h1 := metAll_len rs (metR met r)
    have h2 := metR_len met r
    rw [List.foldl_cons, List.length_cons]
    omega
theorem metL_len (start : Tx) (rs : List RuleD) : (metL start rs).length ≤ 1 + 3 * rs.length := metAll_len rs [start]
theorem metL_take {start : Tx} {rs : List RuleD} {k : Nat} {r : RuleD} (h : rs[k]? = some r) : metL start (rs.take (k + 1)) = metR (metL start (rs.take k)) r := by
  unfold metL
  rw [List.take_add_one, h, List.foldl_append]
  rfl
theorem fold_take {ns met : List Tx} {k : Nat} {n : Tx} (h : ns[k]? = some n) : (ns.take (k + 1)).foldl addNew met = addNew ((ns.take k).foldl addNew met) n := by
  rw [List.take_add_one, h, List.foldl_append]
  rfl
theorem addNew_mem {met : List Tx} {n x : Tx} : x ∈ addNew met n ↔ x ∈ met ∨ x = n := by
  unfold addNew
  split
  · rename_i h
    exact ⟨.inl, fun z => z.elim id fun e => e ▸ h⟩
  · rw [List.mem_append, List.mem_singleton]
theorem addAll_mem {x : Tx} : ∀ {ns met : List Tx}, x ∈ ns.foldl addNew met ↔ x ∈ met ∨ x ∈ ns
  | [], met => by simp
  | n :: ns, met => by
    rw [List.foldl_cons, addAll_mem, addNew_mem, List.mem_cons]
    exact ⟨fun h => h.elim (fun h => h.elim .inl fun e => .inr (.inl e)) fun h => .inr (.inr h), fun h => h.elim (fun h => .inl (.inl h)) fun h => h.elim (fun e => .inl (.inr e)) .inr⟩
noncomputable def RuleD.signIn (signs : Tx) : RuleD → Bool
  | .cell _ _ s => decide (s.headD 0 ∈ signs)
  | _ => true
noncomputable def badSign (signs : Tx) : Nat → List RuleD → Option Nat
  | _, [] => none
  | k, r :: rs => if r.signIn signs then badSign signs (k + 1) rs else some k
noncomputable def whyRules (signs : Tx) (rs : List RuleD) : Option Why := if 24 < rs.length then some ⟨tx "rules", [(rs.length : Int)]⟩ else (badSign signs 0 rs).map fun (k : Nat) => ⟨tx "sign", [(k : Int)]⟩
noncomputable def whyG (signs start : Tx) (rs : List RuleD) : Option Why :=
  if signsOk signs = false then some ⟨tx "signs", []⟩ else
  if isName start = false then some ⟨tx "start", []⟩ else
  match whyRules signs rs with
  | some y => some y
  | none => if 8 < (metL start rs).length then some ⟨tx "names", [((metL start rs).length : Int)]⟩ else none
noncomputable def NoGram (y : Why) : Exn := ⟨"NoGrammar", "why", vl y⟩
noncomputable def mkG (signs start : Tx) (rs : List RuleD) : GramD := ⟨signs, start, rs, metL start rs⟩
noncomputable def GramD.told (g : GramD) : Tx := joinL (tx "\n") ([tx "signs " ++ g.signs, tx "start " ++ g.start] ++ g.rules.map RuleD.told)
structure GramD.Ok (g : GramD) : Prop where
  sg : signsOk g.signs = true
  st : isName g.start = true
  rs : ∀ r ∈ g.rules, r.good = true
  many : g.rules.length ≤ 24
  nm : g.names = metL g.start g.rules
  n8 : g.names.length ≤ 8
theorem mkG_ok {signs start : Tx} {rs : List RuleD} (hg : ∀ r ∈ rs, r.good = true) (h : whyG signs start rs = none) : (mkG signs start rs).Ok := by
  unfold whyG at h
  split at h
  · cases h
  split at h
  · cases h
  rename_i h1 h2
  cases hw : whyRules signs rs with
  | some y => rw [hw] at h; cases h
  | none =>
    rw [hw] at h
    have h : (if 8 < (metL start rs).length then some (⟨tx "names", [((metL start rs).length : Int)]⟩ : Why) else none) = none := h
    split at h
    · cases h
    rename_i h3
    unfold whyRules at hw
    split at hw
    · cases hw
    rename_i h4
    exact ⟨(by cases q : signsOk signs with
      | true => exact q
      | false => exact absurd q h1), (by cases q : isName start with
      | true => exact q
      | false => exact absurd q h2), hg, by show rs.length ≤ 24; omega, rfl, by show (metL start rs).length ≤ 8; omega⟩
noncomputable def signsS : Tw.Spec := fun A P _ => ∃ (x : Tx), A = [vl x] ∧ x.length ≤ 1000 ∧ P (rv (signsOk x))
noncomputable def metS : Tw.Spec := fun A P _ => ∃ (start : Tx) (rs : List RuleD), A = [vl start, vl rs] ∧ rs.length ≤ 100 ∧ P (rn (metL start rs))
noncomputable def askedRS : Tw.Spec := fun A P R => ∃ (signs : Tx) (rs : List RuleD), A = [vl signs, vl rs] ∧ (∀ r ∈ rs, r.good = true) ∧ (whyRules signs rs = none → P (rv ())) ∧ (∀ y, whyRules signs rs = some y → R (NoGram y))
noncomputable def gramS (K : PySem.W.Frag) : Tw.Spec := fun A P R => ∃ (C a dx : Addr) (signs start : Tx) (rs : List RuleD), A = [.own (ownI C a dx []), vl signs, vl start, vl rs] ∧ PySem.W.nsIn K mainGlobals "Grammar" = some (some (.ref C)) ∧ signs.length ≤ 1000 ∧ start.length ≤ 1000 ∧ rs.length ≤ 1000 ∧ (∀ r ∈ rs, r.good = true) ∧
  (whyG signs start rs = none → P (.chg repUnit () [ownI C a dx (mkG signs start rs).flds])) ∧ (∀ y, whyG signs start rs = some y → R (NoGram y))
section
variable {P : Program} {w : World} {K : PySem.W.Frag} {mg : Str → Option Value} {base : Heap}
theorem ok_are_signs (T : Txt K mg) : Has P w K mg base 1 "are_signs" ["text"] signsS := by
  refine Has.of T.f_are_signs sc_are_signs (fun A Q R ⟨x, e, _⟩ => by rw [e]; rfl) fun f cdv A outer s0 H E hr Γ Q R ⟨x, e, hl, hq⟩ => ?_
  subst e
  refine st_if (et_or3 (et_cmp o_lt (ev_lenS T.b_len (ev_var 0) (sl_small (by omega))) ev_int) (fun _ => et_cmp o_gt (ev_lenS T.b_len (ev_var 0) (sl_small (by omega))) (ev_gintE T.c_MOST_SIGNS)) (fun _ _ => et_cmp o_ne (ev_lenSet T.b_len T.b_set (ev_var 0) (by omega)) (ev_lenS T.b_len (ev_var 0) (sl_small (by omega))))) (fun h => ?_) (fun h => st_nil ?_)
  · have hb : signsOk x = false := by
      cases hs : signsOk x with
      | false => rfl
      | true =>
        unfold signsOk at hs
        simp only [Bool.or_eq_true, decide_eq_true_eq, Bool.and_eq_true, Bool.not_eq_true', decide_eq_false_iff_not] at h hs
        have := (unlike_nodup x).mpr hs.2.1
        omega
    rw [hb] at hq
    exact st_retV ev_bl hq
  · simp only [Bool.or_eq_false_iff, decide_eq_false_iff_not, Bool.not_eq_false', decide_eq_true_eq] at h
    have hu : x.Nodup := (unlike_nodup x).mp (by omega)
    refine st_retV (ev_eq (y := signsOk x) (ev_all T.b_all (ev_of_en (en_lc (α := Tx) (β := Bool) (own := [("sign", 1)]) (f := fun y => decide (y.headD 0 ∈ smallTx)) (src_str (ev_var 0)) (tg_name 1) (fun _ _ _ _ _ => pgn 1 sc_are_signs.nd)
      (fun y hy _ _ _ _ _ => ?_) sc_are_signs.nd (ok := bk_are_signs (by decide +kernel)) (hz := by rw [List.length_map]; exact sl_small (by omega))))) ?_) hq
    · obtain ⟨c, _, rfl⟩ := List.mem_map.mp hy
      exact ev_cmp o_inS (ev_var 1) (ev_gstrE T.c_SMALL)
    · unfold signsOk
      rw [List.map_map, List.all_map, decide_eq_true (by omega : 1 ≤ x.length), decide_eq_true (by omega : x.length ≤ 4), decide_eq_true hu, Bool.true_and, Bool.true_and, Bool.true_and]
      rfl
theorem ok_names_met (T : Txt K mg) : Has P w K mg base 2 "names_met" ["start", "rules"] metS := by
  refine Has.of T.f_names_met sc_names_met (fun A Q R ⟨x, rs, e, _⟩ => by rw [e]; rfl) fun f cdv A outer s0 H E hr Γ Q R ⟨st0, rs, e, hl, hq⟩ => ?_
  subst e
  refine st_setN 2 (en_lst (es_cons (ev_var 0) es_nil)) (fun ad => ?_) sc_names_met.nd
  refine st_for (fun k Γ => Le Γ [vl st0, vl rs, .lst repTx ad (metL st0 (rs.take k)), .no, .no]) (src_list (ev_var 1)) (tg_name 3) Le.refl (fun k r Γ' hk hP => ?_) (fun Γ' hP => ?_) (pgn 3 sc_names_met.nd)
  · have hlen : (metL st0 (rs.take k)).length ≤ 301 := by
      have := metL_len st0 (rs.take k)
      rw [List.length_take] at this
      omega
    rw [metL_take hk]
    refine st_le (Le.set hP 3 _) ?_
    generalize metL st0 (rs.take k) = met at hlen
    refine st_for (fun m Γ => Le Γ [vl st0, vl rs, .lst repTx ad (((r.name :: r.parts).take m).foldl addNew met), vl r, .no]) (src_list (xs := r.name :: r.parts) (ev_of_en (en_addL (xs := [r.name]) (ys := r.parts) (ev_of_en (en_lst (es_cons (ev_fld (o_cls T r) (a_name T r) rfl (RuleD.f_name _) (ev_var 3)) es_nil))) (ev_of_en (en_meth0 (o_cls T r) (ok_parts T r) (hr.mono (by decide)) rfl (RuleD.f_parts _) (ev_var 3) fun P' R' h => ⟨_, rfl, rfl, h⟩)) (sl_small (by have := r.parts_len; simp only [List.length_cons, List.length_nil]; omega))))) (tg_name 4) Le.refl (fun m n Γ2 hm hP2 => ?_) (fun Γ2 hP2 => ?_) (pgn 4 sc_names_met.nd)
    · rw [fold_take hm]
      have hl2 : (((r.name :: r.parts).take m).foldl addNew met).length ≤ 304 := by
        have h1 := addAll_len ((r.name :: r.parts).take m) met
        have h2 := r.parts_len
        rw [List.length_take, List.length_cons] at h1
        omega
      refine st_le (Le.set hP2 4 _) ?_
      generalize ((r.name :: r.parts).take m).foldl addNew met = met2 at hl2
      refine st_if (et_lendO 2 frozL (et_cmp o_notInLS (ev_var 4) (ev_var 2))) (fun h => ?_) (fun h => st_nil (st_nil ?_))
      · have h' : n ∉ met2 := by simpa using h
        refine st_append 2 (ad := ad) (xs := met2) (x := n) (ev_var 4) (st_nil (st_nil ?_)) (lt_line (by omega))
        show Le _ [vl st0, vl rs, .lst repTx ad (addNew met2 n), vl r, .no]
        rw [show addNew met2 n = met2 ++ [n] from if_neg h']
        exact le_cons (le_cons (le_cons (le_cons (le_no le_nil))))
      · have h' : n ∈ met2 := by simpa using h
        show Le _ [vl st0, vl rs, .lst repTx ad (addNew met2 n), vl r, .no]
        rw [show addNew met2 n = met2 from if_pos h']
        exact le_cons (le_cons (le_cons (le_cons (le_no le_nil))))
    · rw [List.take_length] at hP2
      exact st_nil (Le.trans hP2 (le_cons (le_cons (le_cons (le_no (le_no le_nil))))))
  · rw [List.take_length] at hP
    exact st_le hP (st_retL 2 hq)
theorem badSign_drop {signs : Tx} {rs : List RuleD} {k : Nat} {r : RuleD} (h : rs[k]? = some r) : badSign signs k (rs.drop k) = if r.signIn signs then badSign signs (k + 1) (rs.drop (k + 1)) else some k := by
  obtain ⟨hk, rfl⟩ := List.getElem?_eq_some_iff.mp h
  rw [List.drop_eq_getElem_cons hk]
  rfl
theorem ok_asked_rules (T : Txt K mg) : Has P w K mg base 4 "asked_rules" ["signs", "rules"] askedRS := by
  refine Has.ofX T.f_asked_rules sc_asked_rules (fun A Q R ⟨x, rs, e, _⟩ => by rw [e]; rfl) fun f cdv A outer s0 H E hr Γ Q R ⟨signs, rs, e, hg, h1, h2⟩ => ?_
  subst e
  refine st_if (et_cmp o_gt (ev_len T.b_len (ev_var 1)) (ev_gintE T.c_MOST_RULES)) (fun h => ?_) (fun h => st_nil ?_)
  · refine st_raise1 T.x_NoGrammar (init_NoGrammar T) (hr.mono (by decide)) (ev_why (ev_str "rules") (es_cons (ev_len T.b_len (ev_var 1)) es_nil)) (h2 _ ?_)
    unfold whyRules
    rw [if_pos (by have := of_decide_eq_true h; omega)]
  have h24 : rs.length ≤ 24 := by have := of_decide_eq_false h; omega
  have ew : whyRules signs rs = (badSign signs 0 rs).map fun (k : Nat) => ⟨tx "sign", [(k : Int)]⟩ := by
    unfold whyRules
    exact if_neg (show ¬ 24 < rs.length by omega)
  rw [ew] at h1 h2
  refine st_for (fun k Γ => badSign signs k (rs.drop k) = badSign signs 0 rs ∧ Le Γ [vl signs, vl rs, .no, .no]) (src_enum T.b_enumerate (ev_var 1)) (tg_pair 2 3 (by decide)) ⟨rfl, Le.refl⟩ (fun k x Γ' hk hP => ?_) (fun Γ' hP => ?_) (pg2 2 3 (pgn 2 sc_asked_rules.nd) (pgn 3 sc_asked_rules.nd))
  · obtain ⟨n, r⟩ := x
    obtain ⟨hn, hr'⟩ := enumL_get hk
    subst hn
    obtain ⟨hb, hP⟩ := hP
    rw [badSign_drop hr'] at hb
    have hgr := hg r (List.mem_of_getElem? hr')
    refine st_le (Le.set (Le.set hP 2 _) 3 _) ?_
    have fin : Le (((([vl signs, vl rs, .no, .no] : List Tw.Slot).set 2 (vl (k : Int))).set 3 (vl r))) [vl signs, vl rs, .no, .no] := le_cons (le_cons (le_no (le_no le_nil)))
    refine st_if (k := !r.signIn signs) ?_ (fun h => ?_) (fun h => st_nil (st_nil ⟨?_, fin⟩))
    · cases r with
      | cell n c s =>
        obtain ⟨d, rfl⟩ : ∃ d, s = [d] := by
          have hs := signOk_of (Bool.and_eq_true .. ▸ hgr : signOk s = true ∧ _).1
          match s, hs with
          | [d], _ => exact ⟨d, rfl⟩
        exact et_eq (et_and (et_val (ev_isiI T.b_isinstance T.o_CellRule T.o_CellRule T.u_CellRule_CellRule rfl (ev_var 3))) fun _ => et_cmp (o_notInS (c := d)) (ev_fld (x := RuleD.cell n c [d]) (y := ([d] : Tx)) T.o_CellRule T.a_CellRule_sign rfl rfl (ev_var 3)) (ev_var 0)) rfl
      | beside n c a b => exact et_eq (et_and (m := false) (et_val (ev_isiI T.b_isinstance T.o_BesideRule T.o_CellRule T.u_BesideRule_CellRule rfl (ev_var 3))) fun h => absurd h (by decide)) rfl
      | above n c a b => exact et_eq (et_and (m := false) (et_val (ev_isiI T.b_isinstance T.o_AboveRule T.o_CellRule T.u_AboveRule_CellRule rfl (ev_var 3))) fun h => absurd h (by decide)) rfl
      | turn n c a t => exact et_eq (et_and (m := false) (et_val (ev_isiI T.b_isinstance T.o_TurnRule T.o_CellRule T.u_TurnRule_CellRule rfl (ev_var 3))) fun h => absurd h (by decide)) rfl
    · have h' : r.signIn signs = false := by simpa using h
      rw [h', if_neg (by decide)] at hb
      exact st_raise1 T.x_NoGrammar (init_NoGrammar T) (hr.mono (by decide)) (ev_why (ev_str "sign") (es_cons (ev_var 2) es_nil)) (h2 _ (by rw [← hb]; rfl))
    · have h' : r.signIn signs = true := by simpa using h
      rw [h', if_pos rfl] at hb
      exact hb
  · obtain ⟨hb, hP⟩ := hP
    rw [enumL_len, List.drop_length] at hb
    exact st_le hP (st_nil (h1 (by rw [← hb]; rfl)))
end
theorem RuleD.told_len {r : RuleD} (h : r.good = true) : r.told.length ≤ 40 := by
  have hb := RuleD.begun_len h
  cases r with
  | cell n c s =>
    simp only [RuleD.good, Bool.and_eq_true] at h
    have := signOk_of h.1
    show ((RuleD.cell n c s).begun ++ s).length ≤ 40
    rw [List.length_append]
    omega
  | beside n c a b =>
    simp only [RuleD.good, Bool.and_eq_true] at h
    have h1 := isName_len h.2.1
    have h2 := isName_len h.2.2
    show ((RuleD.beside n c a b).begun ++ a ++ tx " | " ++ b).length ≤ 40
    simp only [List.length_append]
    show _ + _ + 3 + _ ≤ 40
    omega
  | above n c a b =>
    simp only [RuleD.good, Bool.and_eq_true] at h
    have h1 := isName_len h.2.1
    have h2 := isName_len h.2.2
    show ((RuleD.above n c a b).begun ++ a ++ tx " / " ++ b).length ≤ 40
    simp only [List.length_append]
    show _ + _ + 3 + _ ≤ 40
    omega
  | turn n c a t =>
    simp only [RuleD.good, Bool.and_eq_true, decide_eq_true_eq] at h
    have h1 := isName_len h.2.2
    have h2 := strI_len (c := t) (by omega)
    show ((RuleD.turn n c a t).begun ++ a ++ tx " turned " ++ strI t).length ≤ 40
    simp only [List.length_append]
    rw [h2]
    show _ + _ + 8 + _ ≤ 40
    omega
theorem sum_len {b : Nat} : ∀ {xs : List Tx}, (∀ x ∈ xs, x.length ≤ b) → (xs.map (·.length)).sum ≤ b * xs.length
  | [], _ => by simp
  | x :: xs, h => by
    have h1 := sum_len (b := b) (xs := xs) fun y hy => h y (List.mem_cons_of_mem _ hy)
    have h2 := h x (List.mem_cons_self ..)
    rw [List.map_cons, List.sum_cons, List.length_cons, Nat.mul_succ]
    omega
noncomputable def gOneS (α : Type) [i : Rep α] (f : GramD → α) : Tw.Spec := fun A P _ => ∃ (g : GramD), A = [vl g] ∧ P (rv (f g))
noncomputable def gToldS : Tw.Spec := fun A P _ => ∃ (g : GramD), A = [vl g] ∧ g.rules.length ≤ 100 ∧ g.signs.length ≤ 900 ∧ g.start.length ≤ 900 ∧ (∀ r ∈ g.rules, r.good = true) ∧ P (rv g.told)
section
variable {P : Program} {w : World} {K : PySem.W.Frag} {mg : Str → Option Value} {base : Heap}
theorem ok_Grammar_init (T : Txt K mg) : HasM P w K mg base 6 "Grammar" "__init__" ["self", "signs", "start", "rules"] (gramS K) := by
  refine HasM.ofI T.m_Grammar_init sc_Grammar_init (fun A Q R ⟨C, a, dx, signs, st0, rs, e, _⟩ => by rw [e]; rfl) fun f cdv A outer s0 H E hr Γ Q R ⟨C, a, dx, signs, st0, rs, e, hC, l1, l2, l3, hg, h1, h2⟩ => ⟨ownI C a dx [], ?_⟩
  subst e
  have hc := OC.cl T.o_Grammar hC
  refine st_if (et_not (et_val (ev_call (x := signsOk signs) (ok_are_signs T) (hr.mono (by decide)) (ea_cons (ev_var 1) ea_nil) fun P R h => ⟨signs, rfl, l1, h⟩))) (fun h => ?_) (fun h => st_nil ?_)
  · have h' : signsOk signs = false := by simpa using h
    exact st_raise1 T.x_NoGrammar (init_NoGrammar T) (hr.mono (by decide)) (ev_why (ev_str "signs") es_nil) (h2 _ (if_pos h'))
  have g1 : signsOk signs = true := by simpa using h
  refine st_if (et_not (et_val (ev_call (x := isName st0) (ok_is_name T) (hr.mono (by decide)) (ea_cons (ev_var 2) ea_nil) fun P R h => ⟨st0, rfl, l2, h⟩))) (fun h => ?_) (fun h => st_nil ?_)
  · have h' : isName st0 = false := by simpa using h
    refine st_raise1 T.x_NoGrammar (init_NoGrammar T) (hr.mono (by decide)) (ev_why (ev_str "start") es_nil) (h2 _ ?_)
    unfold whyG
    rw [if_neg (by rw [g1]; decide), if_pos h']
  have g2 : isName st0 = true := by simpa using h
  have eW : whyG signs st0 rs = (match whyRules signs rs with
    | some y => some y
    | none => if 8 < (metL st0 rs).length then some (⟨tx "names", [((metL st0 rs).length : Int)]⟩ : Why) else none) := by
    unfold whyG
    rw [if_neg (by rw [g1]; decide), if_neg (by rw [g2]; decide)]
  rw [eW] at h1 h2
  cases hw : whyRules signs rs with
  | some y =>
    rw [hw] at h2
    exact st_dropR (R := fun x => x = NoGram y) (exx_call (ok_asked_rules T) (hr.mono (by decide)) (ea_cons (ev_var 1) (ea_cons (ev_var 3) ea_nil)) fun P' R' _ h => ⟨signs, rs, rfl, hg, fun z => (by rw [hw] at z; cases z), fun y' hy => (by rw [hw] at hy; cases hy; exact h _ rfl)⟩) (fun x e => e ▸ h2 y rfl)
  | none =>
    rw [hw] at h1 h2
    have h24 : rs.length ≤ 24 := by
      unfold whyRules at hw
      split at hw
      · cases hw
      · omega
    refine st_drop (P := fun r => r = rv ()) (ex_call (ok_asked_rules T) (hr.mono (by decide)) (ea_cons (ev_var 1) (ea_cons (ev_var 3) ea_nil)) fun P' R' h => ⟨signs, rs, rfl, hg, fun _ => h _ rfl, fun y hy => by rw [hw] at hy; cases hy⟩) ?_
    refine st_setN 4 (en_call (ok_names_met T) (hr.mono (by decide)) (ea_cons (ev_var 2) (ea_cons (ev_var 3) ea_nil)) fun P R h => ⟨st0, rs, rfl, by omega, h⟩) (fun ad => ?_) sc_Grammar_init.nd
    refine st_freeze 4 frozL ?_
    refine st_if (et_cmp o_gt (ev_len T.b_len (ev_var 4)) (ev_gintE T.c_MOST_NAMES)) (fun h => ?_) (fun h => st_nil ?_)
    · have h' : 8 < (metL st0 rs).length := by have := of_decide_eq_true h; omega
      exact st_raise1 T.x_NoGrammar (init_NoGrammar T) (hr.mono (by decide)) (ev_why (ev_str "names") (es_cons (ev_len T.b_len (ev_var 4)) es_nil)) (h2 _ (if_pos h'))
    have h' : ¬ 8 < (metL st0 rs).length := by have := of_decide_eq_false h; omega
    refine st_setF 0 (fs := []) (ev_var 1) ?_ hc (T.a_Grammar_signs C hC) rfl
    refine st_setF 0 (fs := [("signs", vl signs)]) (ev_var 2) ?_ hc (T.a_Grammar_start C hC) (lk rfl)
    refine st_setF 0 (fs := [("signs", vl signs), ("start", vl st0)]) (ev_of_en (en_list T.b_list (ev_var 3))) ?_ hc (T.a_Grammar_kept_rules C hC) (lk rfl)
    exact st_setF 0 (fs := [("signs", vl signs), ("start", vl st0), ("kept_rules", vl rs)]) (ev_var 4) (st_nil ⟨_, rfl, rfl, h1 (if_neg h')⟩) hc (T.a_Grammar_kept_names C hC) (lk rfl)
theorem ok_Grammar_many (T : Txt K mg) : HasM P w K mg base 1 "Grammar" "many" ["self"] (gOneS Int fun g => (g.rules.length : Int)) := by
  refine HasM.of T.m_Grammar_many sc_Grammar_many (fun A Q R ⟨g, e, _⟩ => by rw [e]; rfl) fun f cdv A outer s0 H E hr Γ Q R ⟨g, e, hq⟩ => ?_
  subst e
  exact st_retV (ev_len T.b_len (ev_fld (x := g) (y := g.rules) T.o_Grammar T.a_Grammar_kept_rules rfl rfl (ev_var 0))) hq
theorem ok_Grammar_told (T : Txt K mg) : HasM P w K mg base 3 "Grammar" "told" ["self"] gToldS := by
  refine HasM.of T.m_Grammar_told sc_Grammar_told (fun A Q R ⟨g, e, _⟩ => by rw [e]; rfl) fun f cdv A outer s0 H E hr Γ Q R ⟨g, e, l1, l2, l3, hg, hq⟩ => ?_
  subst e
  have s1 : (tx "signs ").length = 6 := by decide
  have s2 : (tx "start ").length = 6 := by decide
  refine st_setN 1 (en_lst (es_cons (x := tx "signs " ++ g.signs) (ev_bin (o_addS (sl_small (by omega))) (ev_str "signs ") (ev_fld (x := g) (y := g.signs) T.o_Grammar T.a_Grammar_signs rfl rfl (ev_var 0))) (es_cons (x := tx "start " ++ g.start) (ev_bin (o_addS (sl_small (by omega))) (ev_str "start ") (ev_fld (x := g) (y := g.start) T.o_Grammar T.a_Grammar_start rfl rfl (ev_var 0))) es_nil))) (fun ad => ?_) sc_Grammar_told.nd
  refine st_freeze 1 frozL ?_
  refine st_retV (ev_join (ev_str "\n") (ev_of_en (en_addL (ev_var 1) (ev_of_en (en_lc (α := RuleD) (β := Tx) (own := [("rule", 2)]) (f := RuleD.told) (src_list (xs := g.rules) (ev_fld (x := g) (y := g.rules) T.o_Grammar T.a_Grammar_kept_rules rfl rfl (ev_var 0))) (tg_name 2) (fun _ _ _ _ _ => pgn 2 sc_Grammar_told.nd)
    (fun r hr' _ _ _ _ _ => ev_meth0 (o_cls T r) (ok_told T r) (hr.mono (by decide)) rfl (RuleD.f_told _) (ev_var 2) fun P' R' h => ⟨_, rfl, rfl, hg r hr', h⟩) sc_Grammar_told.nd (ok := bk_Grammar_told (by decide +kernel)) (hz := sl_small (by omega)))) ?_)) ?_) hq
  · rw [List.length_map]
    exact sl_small (by show 2 + g.rules.length ≤ 1000; omega)
  · have hs : ∀ x ∈ [tx "signs " ++ g.signs, tx "start " ++ g.start] ++ g.rules.map RuleD.told, x.length ≤ 910 := fun x hx => by
      rcases List.mem_append.mp hx with hx | hx
      · simp only [List.mem_cons, List.not_mem_nil, or_false] at hx
        rcases hx with rfl | rfl
        · rw [List.length_append, s1]; omega
        · rw [List.length_append, s2]; omega
      · obtain ⟨r, hr', rfl⟩ := List.mem_map.mp hx
        have := RuleD.told_len (hg r hr')
        omega
    have hs2 := sum_len hs
    have hl : ([tx "signs " ++ g.signs, tx "start " ++ g.start] ++ g.rules.map RuleD.told).length = 2 + g.rules.length := by rw [List.length_append, List.length_map]; rfl
    have s3 : (tx "\n").length = 1 := by decide
    rw [hl] at hs2 ⊢
    rw [s3]
    omega
end
structure GramD.Made (g : GramD) : Prop where
  rs : ∀ r ∈ g.rules, r.good = true
  why : whyG g.signs g.start g.rules = none
  eq : g = mkG g.signs g.start g.rules
theorem GramD.Made.ok {g : GramD} (h : g.Made) : g.Ok := by
  have := mkG_ok h.rs h.why
  rw [← h.eq] at this
  exact this
local macro_rules | `(tactic| walk_at "le") => `(tactic| repeat (first | exact le_nil | refine le_cons ?_ | refine le_no ?_))
theorem words_inj {r r' : RuleD} (h : r.good = true) (h' : r'.good = true) (e : r.words = r'.words) : r = r' := by
  have b := RuleD.bounds h
  have b' := RuleD.bounds h'
  unfold RuleD.words at e
  injection e with e1 e2
  injection e2 with e2 e3
  have ec : r.cost = r'.cost := by
    have := (List.cons.inj e2).1
    omega
  have nt : ([124] : Tx) ≠ [47] ∧ ([124] : Tx) ≠ tx "turned" ∧ ([47] : Tx) ≠ tx "turned" := by decide +kernel
  cases r <;> cases r' <;> simp only [RuleD.bodyW, RuleD.name, RuleD.cost, List.cons.injEq, and_true, reduceCtorEq, and_false] at e1 e3 ec
  · rw [e1, ec, e3]
  · rw [e1, ec, e3.1, e3.2.2]
  · exact absurd e3.2.1 (by decide)
  · exact absurd e3.2.1 nt.2.1
  · exact absurd e3.2.1 (by decide)
  · rw [e1, ec, e3.1, e3.2.2]
  · exact absurd e3.2.1 nt.2.2
  · exact absurd e3.2.1.symm nt.2.1
  · exact absurd e3.2.1.symm nt.2.2
  · simp only [RuleD.good, Bool.and_eq_true, decide_eq_true_eq] at h h'
    rw [e1, ec, e3.1]
    congr 1
    omega
theorem told_inj {r r' : RuleD} (h : r.good = true) (h' : r'.good = true) (e : r.told = r'.told) : r = r' := words_inj h h' (by rw [← told_split h, ← told_split h', e])
noncomputable def NoTextX (k : Nat) : Exn := ⟨"NoText", "row", vl (k : Int)⟩
noncomputable def rowS : Tw.Spec := fun A P R => ∃ (rows : List Tx) (k : Nat) (x : Tx), A = [vl rows, vl (k : Int)] ∧ rows[k]? = some x ∧ x.length ≤ 900 ∧ (∀ r : RuleD, r.good = true → r.told = x → P (rv r)) ∧ ((∀ r : RuleD, r.good = true → r.told ≠ x) → R (NoTextX k))
noncomputable def sgH : Tx := tx "signs "
noncomputable def stH : Tx := tx "start "
noncomputable def badAt (ok : Tx → Bool) : Nat → Tx → Bool
  | 0, x => !decide (x.take 6 = sgH)
  | 1, x => !decide (x.take 6 = stH)
  | _ + 2, x => !ok x
noncomputable def badF (ok : Tx → Bool) : Nat → List Tx → Option Nat
  | k, [] => if k < 2 then some k else none
  | k, x :: xs => if badAt ok k x = true then some k else badF ok (k + 1) xs
theorem bad_at {ok : Tx → Bool} : ∀ {xs : List Tx} {k j : Nat} {x : Tx}, xs[j]? = some x → badAt ok (k + j) x = true → (∀ i, i < j → ∀ y, xs[i]? = some y → badAt ok (k + i) y = false) → badF ok k xs = some (k + j)
  | [], _, j, _, h, _, _ => by simp at h
  | y :: xs, k, 0, x, h, hb, _ => by
    cases h
    exact if_pos hb
  | y :: xs, k, j + 1, x, h, hb, hn => by
    unfold badF
    have h0 := hn 0 (by omega) y rfl
    rw [if_neg (by rw [show k = k + 0 from rfl, h0]; decide), bad_at (k := k + 1) (j := j) h (by rw [show k + 1 + j = k + (j + 1) by omega]; exact hb) fun i hi y hy => by
      rw [show k + 1 + i = k + (i + 1) by omega]
      exact hn (i + 1) (by omega) y hy]
    rw [show k + 1 + j = k + (j + 1) by omega]
theorem bad_end {ok : Tx → Bool} : ∀ {xs : List Tx} {k : Nat}, (∀ i y, xs[i]? = some y → badAt ok (k + i) y = false) → badF ok k xs = if k + xs.length < 2 then some (k + xs.length) else none
  | [], k, _ => rfl
  | y :: xs, k, hn => by
    unfold badF
    have h0 := hn 0 y rfl
    rw [if_neg (by rw [show k = k + 0 from rfl, h0]; decide), bad_end (k := k + 1) fun i y hy => by
      rw [show k + 1 + i = k + (i + 1) by omega]
      exact hn (i + 1) y hy]
    rw [List.length_cons, show k + 1 + xs.length = k + (xs.length + 1) by omega]
noncomputable def WrOk (ok : Tx → Bool) : Prop := ∀ x, ok x = true ↔ ∃ r : RuleD, r.good = true ∧ r.told = x
noncomputable def readGS (ok : Tx → Bool) : Tw.Spec := fun A P R => ∃ (text : Tx) (rows : List Tx), A = [vl text] ∧ rows = splitC 10 [] text ∧ text.length ≤ 900000 ∧ rows.length ≤ 200 ∧ (∀ x ∈ rows, x.length ≤ 900) ∧ (∀ k, badF ok 0 rows = some k → R (NoTextX k)) ∧
  (∀ (a b : Tx) (rs : List RuleD), (∀ r ∈ rs, r.good = true) → rows = a :: b :: rs.map RuleD.told → a.take 6 = sgH → b.take 6 = stH → (whyG (a.drop 6) (b.drop 6) rs = none → P (rv (mkG (a.drop 6) (b.drop 6) rs))) ∧ (∀ y, whyG (a.drop 6) (b.drop 6) rs = some y → R (NoGram y)))
section
variable {X : Cx} {Γ : List Tw.Slot} {pos : Pos} {e : Expr}
theorem starts_is (x d : Tx) : Txt.startswith (sx x) (sx d) = decide (x.take d.length = d) := by
  unfold Txt.startswith
  rw [StrLaws.subAt_eq]
  have e1 : (sx x).cps.toList = x := rfl
  have e2 : (sx d).cps.toList = d := rfl
  have l1 : (sx x).length = x.length := sx_len _
  have l2 : (sx d).length = d.length := sx_len _
  rw [e1, e2, l1, l2, List.drop_zero, Nat.zero_add]
  by_cases h : x.take d.length = d
  · have hl : d.length ≤ x.length := by
      have := congrArg List.length h
      rw [List.length_take] at this
      omega
    rw [decide_eq_true h, decide_eq_true hl, h]
    simp
  · rw [decide_eq_false h]
    simp [h]
theorem ev_starts {o : Expr} {x d : Tx} {apos : Pos} (ho : EV X Γ o x) (he : EV X Γ e d) (hbase : autoParam (attributeBase o "startswith" X.env (eval o X.env) = eval o X.env) aRfl)
    (hfew : autoParam (((backTo pos (starEach [e] X.env)).all (fun x => !x.1) && (backToKw pos (keywordEach [] X.env)).all (fun x => x.1.isSome) && decide ([e].length + ([] : List Keyword).length + (if ([] : List Keyword).isEmpty then 0 else 1) < 30)) = true) aRfl)
    (hline : autoParam ((apos.endLine == pos.line) = true) aRfl) (hs : autoParam (starEach [e] X.env = (false, eval e X.env) :: starEach [] X.env) aStar) (hplain : autoParam ((backTo pos (starEach [] X.env)).any (·.1) = false) aRfl) :
    EV X Γ (.Call (.Attribute o "startswith" apos) [e] [] pos) (decide (x.take d.length = d)) := fun B F H σ Q L q =>
  WE.of (pe_bm PySem.F.plainAttrs_str PySem.F.slot_str_startswith PySem.F.type_str_startswith mt_startswith peW (pa_cons peW pa_nil hs) hbase hfew hline hs hplain) (ho B F H σ _ L fun v F1 H1 e1 r1 => by
    obtain rfl : v = .str (sx x) := r1
    refine ⟨rfl, he B F1 H1 σ _ (L.step e1) fun u F2 H2 e2 r2 => ?_⟩
    obtain rfl : u = .str (sx d) := r2
    refine ⟨sx x, sx d, rfl, rfl, ?_⟩
    rw [starts_is]
    exact q _ F2 H2 (e1.trans e2) rfl)
end
section
variable {P : Program} {w : World} {K : PySem.W.Frag} {mg : Str → Option Value} {base : Heap}
theorem hot_NoText (T : Txt K mg) : XInitH P w K mg base 1 "NoText" "row" := XInitH.of T.i_NoText sc_NoText_init rfl fun C fI TC hno cdv A outer s H E p a v Q ha hq => by
  obtain ⟨D, bD⟩ := T.q_QuiltError
  exact WP.cons (ps_expr (pe_qinit bD (pa_cons (pe_var (i := 0) rfl (.inl rfl)) (pa_cons pe_str pa_nil))) rfl) ⟨_, rfl, a, C, _, rfl, by decide, TC, ha, WP.cons (ps_ost (pe_var (i := 0) rfl (.inl rfl)) (pe_var (i := 1) rfl (.inl rfl)) rfl) ⟨v, rfl, _, rfl, a, C, rfl, TC, hno, .inl ⟨ha, fun dx h1 h2 => WP.of pss_nil (hq dx h1 h2)⟩⟩⟩
theorem ok_read_row (T : Txt K mg) : Has P w K mg base 9 "read_row" ["rows", "number"] rowS := by
  refine Has.ofX (k := 8) T.f_read_row sc_read_row (fun A Q R ⟨rows, k, x, e, _⟩ => by rw [e]; rfl) fun f cdv A outer s0 H E hr Γ Q R ⟨rows, k, x, e, hx, hl, h1, h2⟩ => ?_
  subst e
  refine st_tryR T.x_NoRule (fun hd => L2H.passesAt_of rfl hd) fun pn xe hpass => ?_
  by_cases hw : ∃ r : RuleD, r.good = true ∧ r.told = x
  · obtain ⟨r, hg, ht⟩ := hw
    refine st_set 2 (x := r) (ev_call (x := r) (ok_read_rule T) (hr.mono (by decide)) (ea_cons (x := x) (ev_ixL (xs := rows) (ev_var 0) (ev_var 1) (atI_nat hx)) ea_nil) fun P' R' h => ⟨x, rfl, hl, fun r' hg' ht' => by rw [told_inj hg' hg (ht'.trans ht.symm)]; exact h, fun z => absurd ht (z r hg)⟩) (st_nil (st_retV (ev_var 2) (h1 r hg ht))) sc_read_row.nd
  · refine st_setR 2 (R := fun y => y = NoRule) (exx_call (P := fun _ => False) (ok_read_rule T) (hr.mono (by decide)) (ea_cons (x := x) (ev_ixL (xs := rows) (ev_var 0) (ev_var 1) (atI_nat hx)) ea_nil) fun P' R' _ h => ⟨x, rfl, hl, fun r hg ht => absurd ⟨r, hg, ht⟩ hw, fun _ => h _ rfl⟩) (fun y e => ?_) sc_read_row.nd
    subst e
    refine ⟨T.s_NoRule_NoRule, XPlain.nf T.p_NoRule, fun a oe pn hot => ?_⟩
    exact st_raiseH (k := 1) hot T.x_NoText (hot_NoText T) (L2H.roomH_mark (hr.mono (by decide)) _) (ev_var (x := (k : Int)) 1) ⟨Dx.fr T.i_NoText, h2 fun r hg ht => hw ⟨r, hg, ht⟩⟩
theorem ok_read_grammar (T : Txt K mg) {ok : Tx → Bool} (hok : WrOk ok) : Has P w K mg base 11 "read_grammar" ["text"] (readGS ok) := by
  refine Has.ofX (k := 10) T.f_read_grammar sc_read_grammar (fun A Q R ⟨text, rows, e, _⟩ => by rw [e]; rfl) fun f cdv A outer s0 H E hr Γ Q R ⟨text, rows, e, er, ht, hrl, hxl, h1, h2⟩ => ?_
  subst e
  refine st_set 1 (x := rows) (ev_of_en (en_eq (en_split (c := 10) (ev_var 0) (ev_str "\n") (by decide) (Nat.le_trans (Nat.add_le_add_right ht 2) (by decide))) er.symm)) ?_ sc_read_grammar.nd
  have hne : rows ≠ [] := by rw [er]; exact splitC_ne _ _
  obtain ⟨x0, xr, rfl⟩ : ∃ x0 xr, rows = x0 :: xr := by
    cases rows with
    | nil => exact absurd rfl hne
    | cons a l => exact ⟨a, l, rfl⟩
  have nT : ∀ k : Nat, badF ok 0 (x0 :: xr) = some k → R (NoTextX k) := h1
  refine st_for (xs := [((0 : Int), sgH), (1, stH)]) (fun m Γ' => Le Γ' [.no, vl (x0 :: xr), .no, .no, .no] ∧ ∀ i, i < m → ∃ y, (x0 :: xr)[i]? = some y ∧ badAt ok i y = false) (src_enum (xs := [sgH, stH]) T.b_enumerate (ev_of_en (en_lst (es_cons (ev_str "signs ") (es_cons (ev_str "start ") es_nil))))) (tg_pair 2 3 (by decide)) ⟨by walk_at "le", fun i hi => by omega⟩ (fun m x Γ' hm hI => ?_) (fun Γ' hI => ?_) (pg2 2 3 (pgn 2 sc_read_grammar.nd) (pgn 3 sc_read_grammar.nd))
  · obtain ⟨le, hI⟩ := hI
    refine st_le (Le.set (Le.set le 2 _) 3 _) ?_
    refine st_le (Γ' := [.no, vl (x0 :: xr), vl x.1, vl x.2, .no]) (by walk_at "le") ?_
    have hm2 : m < 2 := by
      have := (List.getElem?_eq_some_iff.mp hm).1
      simpa using this
    have hx1 : x.1 = (m : Int) ∧ x.2 = (if m = 0 then sgH else stH) := by
      rcases (by omega : m = 0 ∨ m = 1) with rfl | rfl
      · cases hm; exact ⟨rfl, rfl⟩
      · cases hm; exact ⟨rfl, rfl⟩
    have before : ∀ i, i < m → ∀ y, (x0 :: xr)[i]? = some y → badAt ok (0 + i) y = false := fun i hi y hy => by
      obtain ⟨z, hz, hb⟩ := hI i hi
      rw [hz] at hy
      cases hy
      rw [Nat.zero_add]; exact hb
    cases hy : (x0 :: xr)[m]? with
    | none =>
      have hlen : (x0 :: xr).length = m := by
        have h3 := List.getElem?_eq_none_iff.mp hy
        rw [List.length_cons] at h3
        rcases (by omega : m = 0 ∨ m = 1) with rfl | rfl
        · omega
        · rw [List.length_cons]; omega
      refine st_if (k := true) (et_eq (et_or (k := true) (m := true) (et_eq (et_cmp o_eq (ev_var (x := x.1) 2) (ev_len T.b_len (ev_var (x := x0 :: xr) 1))) (decide_eq_true (by rw [hx1.1, hlen]))) fun h => nomatch h) rfl) (fun _ => ?_) (fun h => nomatch h)
      refine st_raise1 T.x_NoText (init_NoText T) (hr.mono (by decide)) (ev_var (x := x.1) 2) ?_
      rw [hx1.1]
      refine nT m ?_
      have := bad_end (ok := ok) (xs := x0 :: xr) (k := 0) fun i y hy' => before i (by have := (List.getElem?_eq_some_iff.mp hy').1; omega) y hy'
      rw [Nat.zero_add, hlen, if_pos hm2] at this
      exact this
    | some y =>
      have hne2 : ¬ (x.1 = ((x0 :: xr).length : Int)) := by
        rw [hx1.1]
        have := (List.getElem?_eq_some_iff.mp hy).1
        omega
      have hy6 : y.take x.2.length = x.2 ↔ badAt ok m y = false := by
        rw [hx1.2]
        rcases (by omega : m = 0 ∨ m = 1) with rfl | rfl
        · show y.take 6 = sgH ↔ (!decide (y.take 6 = sgH)) = false
          simp
        · show y.take 6 = stH ↔ (!decide (y.take 6 = stH)) = false
          simp
      by_cases hb : badAt ok m y = false
      · refine st_if (k := false) (et_eq (et_or (k := false) (m := false) (et_eq (et_cmp o_eq (ev_var (x := x.1) 2) (ev_len T.b_len (ev_var (x := x0 :: xr) 1))) (decide_eq_false hne2)) fun _ => et_eq (et_not (et_val (ev_starts (x := y) (d := x.2) (ev_ixL (xs := x0 :: xr) (ev_var 1) (ev_eq (ev_var (x := x.1) 2) hx1.1) (atI_nat hy)) (ev_var 3)))) (by rw [decide_eq_true (hy6.mpr hb)]; rfl)) rfl) (fun h => nomatch h) (fun _ => st_nil (st_nil ⟨by walk_at "le", fun i hi => ?_⟩))
        by_cases him : i < m
        · exact hI i him
        · obtain rfl : i = m := by omega
          exact ⟨y, hy, hb⟩
      · have hb : badAt ok m y = true := by simpa using hb
        refine st_if (k := true) (et_eq (et_or (k := false) (m := true) (et_eq (et_cmp o_eq (ev_var (x := x.1) 2) (ev_len T.b_len (ev_var (x := x0 :: xr) 1))) (decide_eq_false hne2)) fun _ => et_eq (et_not (et_val (ev_starts (x := y) (d := x.2) (ev_ixL (xs := x0 :: xr) (ev_var 1) (ev_eq (ev_var (x := x.1) 2) hx1.1) (atI_nat hy)) (ev_var 3)))) (by rw [decide_eq_false (fun z => by rw [hy6.mp z] at hb; cases hb)]; rfl)) rfl) (fun _ => ?_) (fun h => nomatch h)
        refine st_raise1 T.x_NoText (init_NoText T) (hr.mono (by decide)) (ev_var (x := x.1) 2) ?_
        rw [hx1.1]
        refine nT m ?_
        have := bad_at (ok := ok) (xs := x0 :: xr) (k := 0) (j := m) hy (by rw [Nat.zero_add]; exact hb) before
        rw [Nat.zero_add] at this
        exact this
  · obtain ⟨le, hI⟩ := hI
    have hI : ∀ i, i < 2 → ∃ y, (x0 :: xr)[i]? = some y ∧ badAt ok i y = false := hI
    obtain ⟨x1, xt, rfl⟩ : ∃ x1 xt, xr = x1 :: xt := by
      obtain ⟨y, hy, _⟩ := hI 1 (by decide)
      cases xr with
      | nil => cases hy
      | cons a l => exact ⟨a, l, rfl⟩
    have a6 : x0.take 6 = sgH := by
      obtain ⟨y, hy, hb⟩ := hI 0 (by decide)
      cases hy
      have hb : (!decide (x0.take 6 = sgH)) = false := hb
      simpa using hb
    have b6 : x1.take 6 = stH := by
      obtain ⟨y, hy, hb⟩ := hI 1 (by decide)
      cases hy
      have hb : (!decide (x1.take 6 = stH)) = false := hb
      simpa using hb
    have hlen : (x0 :: x1 :: xt).length = xt.length + 2 := rfl
    refine st_le le ?_
    refine st_setLcX 4 (α := Int) (β := RuleD) (j := repInst) (own := [("number", 2)]) (xs := rng 2 (((x0 :: x1 :: xt).length : Int) - 2).toNat) (G := fun n r => ∃ k : Nat, n = (k : Int) ∧ r.good = true ∧ (x0 :: x1 :: xt)[k]? = some r.told) (R := fun n y => ∃ k : Nat, n = (k : Int) ∧ y = NoTextX k ∧ ∃ z, (x0 :: x1 :: xt)[k]? = some z ∧ ∀ r : RuleD, r.good = true → r.told ≠ z)
      (src_range2 (m := 2) (n := ((x0 :: x1 :: xt).length : Int)) T.b_range ev_int (ev_len T.b_len (ev_var (x := x0 :: x1 :: xt) 1)) (by omega)) (tg_name 2) (fun _ _ _ _ _ => pgn 2 sc_read_grammar.nd) (fun n hn _ _ _ _ => ?_) sc_read_grammar.nd (by rw [rng_len]; exact sl_small (by omega)) (fun ad rs hrs hG => ?_) (fun t n hn hbef y hy => ?_) (ok := bk_read_grammar (by decide +kernel))
    · obtain ⟨j, hj, rfl⟩ := rng_mem hn
      have hjl : 2 + j < (x0 :: x1 :: xt).length := by omega
      obtain ⟨z, hz⟩ : ∃ z, (x0 :: x1 :: xt)[2 + j]? = some z := ⟨_, List.getElem?_eq_getElem hjl⟩
      have hzl := hxl z (List.mem_of_getElem? hz)
      refine exx_call (ok_read_row T) (hr.mono (by decide)) (ea_cons (x := x0 :: x1 :: xt) (ev_var 1) (ea_cons (x := ((2 + j : Nat) : Int)) (ev_eq (ev_var (x := (2 : Int) + (j : Int)) 2) (by omega)) ea_nil)) fun P' R' h h' => ⟨x0 :: x1 :: xt, 2 + j, z, rfl, hz, hzl, fun r hg hte => h _ ⟨r, ⟨2 + j, by omega, hg, by rw [hz, hte]⟩, rfl⟩, fun hno => h' _ ⟨2 + j, by omega, rfl, z, hz, hno⟩⟩
    · refine st_freeze 4 frozL ?_
      have hnl : (rng 2 (((x0 :: x1 :: xt).length : Int) - 2).toNat).length = xt.length := by rw [rng_len, hlen]; omega
      have each : ∀ (k : Nat) (r : RuleD), rs[k]? = some r → r.good = true ∧ xt[k]? = some r.told := fun k r hk => by
        have hkl := (List.getElem?_eq_some_iff.mp hk).1
        have hkx : (rng 2 (((x0 :: x1 :: xt).length : Int) - 2).toNat)[k]? = some (2 + (k : Int)) := by
          unfold rng
          rw [List.getElem?_map, List.getElem?_range (by omega)]; rfl
        obtain ⟨j, hj, hg, hjx⟩ := hG k _ r hkx hk
        obtain rfl : j = k + 2 := by omega
        exact ⟨hg, hjx⟩
      have hmap : xt = rs.map RuleD.told := by
        refine List.ext_getElem? fun k => ?_
        rw [List.getElem?_map]
        cases hk : rs[k]? with
        | some r => exact (each k r hk).2
        | none =>
          have := List.getElem?_eq_none_iff.mp hk
          rw [Option.map_none, List.getElem?_eq_none]
          omega
      have hgood : ∀ r ∈ rs, r.good = true := fun r hr' => by
        obtain ⟨k, hk⟩ := List.getElem?_of_mem hr'
        exact (each k r hk).1
      obtain ⟨g1, g2⟩ := h2 x0 x1 rs hgood (by rw [hmap]) a6 b6
      have l0 := hxl x0 (List.mem_cons_self ..)
      have l1 := hxl x1 (List.mem_cons_of_mem _ (List.mem_cons_self ..))
      have d0 : cutL x0 (some 6) none = x0.drop 6 := cutL_from 6
      have d1 : cutL x1 (some 6) none = x1.drop 6 := cutL_from 6
      have e0 : (x0.drop 6).length ≤ 1000 := by rw [List.length_drop]; omega
      have e1 : (x1.drop 6).length ≤ 1000 := by rw [List.length_drop]; omega
      refine st_retX (P := fun r => r = rv (mkG (x0.drop 6) (x1.drop 6) rs) ∧ whyG (x0.drop 6) (x1.drop 6) rs = none) (R := fun z => ∃ y, whyG (x0.drop 6) (x1.drop 6) rs = some y ∧ z = NoGram y) ?_ (fun r hr' => ?_) (fun z hz => ?_)
      rotate_left
      · rw [hr'.1]; exact g1 hr'.2
      · obtain ⟨y, hy, rfl⟩ := hz
        exact g2 y hy
      cases hwy : whyG (x0.drop 6) (x1.drop 6) rs with
      | none =>
        refine exx_imp (exx_makeV (x := mkG (x0.drop 6) (x1.drop 6) rs) (R := fun _ => False) T.o_Grammar (ok_Grammar_init T) (hr.mono (by decide)) rfl (ea_cons (x := x0.drop 6) (ev_eq (ev_sliceS (x := x0) (o1 := some 6) (o2 := none) (ev_ixL (xs := x0 :: x1 :: xt) (ev_var 1) ev_int (atI_nat (j := 0) rfl)) ev_int trivial (sl_small (by omega))) d0) (ea_cons (x := x1.drop 6) (ev_eq (ev_sliceS (x := x1) (o1 := some 6) (o2 := none) (ev_ixL (xs := x0 :: x1 :: xt) (ev_var 1) ev_int (atI_nat (j := 1) rfl)) ev_int trivial (sl_small (by omega))) d1) (ea_cons (x := rs) (ev_var 4) ea_nil)))
          fun C hC a dx P' R' h _ => ⟨C, a, dx, _, _, rs, rfl, hC, e0, e1, by omega, hgood, fun _ => h, fun y hy => (by rw [hwy] at hy; cases hy)⟩) (fun r e => ⟨e, rfl⟩) fun z hz => hz.elim
      | some y =>
        refine exx_imp (exx_make (fs := []) (P := fun _ => False) (R := fun z => z = NoGram y) T.o_Grammar (ok_Grammar_init T) (hr.mono (by decide)) (ea_cons (x := x0.drop 6) (ev_eq (ev_sliceS (x := x0) (o1 := some 6) (o2 := none) (ev_ixL (xs := x0 :: x1 :: xt) (ev_var 1) ev_int (atI_nat (j := 0) rfl)) ev_int trivial (sl_small (by omega))) d0) (ea_cons (x := x1.drop 6) (ev_eq (ev_sliceS (x := x1) (o1 := some 6) (o2 := none) (ev_ixL (xs := x0 :: x1 :: xt) (ev_var 1) ev_int (atI_nat (j := 1) rfl)) ev_int trivial (sl_small (by omega))) d1) (ea_cons (x := rs) (ev_var 4) ea_nil)))
          fun C hC a dx P' R' _ h => ⟨C, a, dx, _, _, rs, rfl, hC, e0, e1, by omega, hgood, fun z => (by rw [hwy] at z; cases z), fun y' hy => (by rw [hwy] at hy; cases hy; exact h _ rfl)⟩) (fun r e => e.elim) fun z hz => ⟨y, rfl, hz⟩
    · obtain ⟨k, rfl, rfl, z, hz, hno⟩ := hy
      refine ⟨Dx.fr T.i_NoText, nT k ?_⟩
      have hk2 : (k : Int) = 2 + (t : Int) := by
        unfold rng at hn
        rw [List.getElem?_map] at hn
        obtain ⟨u, hu, e⟩ := Option.map_eq_some_iff.mp hn
        have := List.getElem?_eq_some_iff.mp hu
        obtain ⟨_, hu2⟩ := this
        rw [List.getElem_range] at hu2
        have e : 2 + (u : Int) = (k : Int) := e
        omega
      obtain rfl : k = t + 2 := by omega
      have okz : ok z = false := by
        cases hz' : ok z with
        | false => rfl
        | true =>
          obtain ⟨r, hg, hr'⟩ := (hok z).mp hz'
          exact absurd hr' (hno r hg)
      have := bad_at (ok := ok) (xs := x0 :: x1 :: xt) (k := 0) (j := t + 2) hz (by rw [Nat.zero_add]; show (!ok z) = true; rw [okz]; rfl) fun i hi y hy => by
        rw [Nat.zero_add]
        match i with
        | 0 => cases hy; show (!decide (x0.take 6 = sgH)) = false; rw [decide_eq_true a6]; rfl
        | 1 => cases hy; show (!decide (x1.take 6 = stH)) = false; rw [decide_eq_true b6]; rfl
        | i + 2 =>
          have hix : (rng 2 (((x0 :: x1 :: xt).length : Int) - 2).toNat)[i]? = some (2 + (i : Int)) := by
            have hil := (List.getElem?_eq_some_iff.mp hy).1
            unfold rng
            rw [List.getElem?_map, List.getElem?_range (by omega)]; rfl
          obtain ⟨r, j, hj, hg, hjx⟩ := hbef i (by omega) _ hix
          obtain rfl : j = i + 2 := by omega
          rw [hjx] at hy
          cases hy
          show (!ok r.told) = false
          rw [(hok _).mpr ⟨r, hg, rfl⟩]; rfl
      rw [Nat.zero_add] at this
      exact this
end
noncomputable def RuleD.word : RuleD → Tx
  | .cell .. => tx "cell"
  | .beside .. => tx "beside"
  | .above .. => tx "above"
  | .turn .. => tx "turned"
noncomputable def pk3 (sep x : Tx) : Bool := isName ((partL sep x).getD 0 []) && (!(decide ((partL sep x).getD 1 [] = [])) && isName ((partL sep x).getD 2 []))
noncomputable def pkT (x : Tx) : Bool := isName ((partL (tx " turned ") x).getD 0 []) && (!(decide ((partL (tx " turned ") x).getD 1 [] = [])) && (decide (((partL (tx " turned ") x).getD 2 []).length = 1) && ((partL (tx " turned ") x).getD 2 []).all fun c => decide (c ∈ turnsTx)))
noncomputable def bodyOf (x : Tx) : Option Tx := if signOk x then some (tx "cell") else if pk3 (tx " | ") x then some (tx "beside") else if pk3 (tx " / ") x then some (tx "above") else if pkT x then some (tx "turned") else none
noncomputable def dueBad (x : Tx) : Bool := !isName ((partL [32] x).getD 0 []) || (decide ((partL [32] x).getD 1 [] = []) || (!(decide (cutL ((partL [32] x).getD 2 []) (some 1) (some 3) = tx ": ")) || !(decide (cutL ((partL [32] x).getD 2 []) none (some 1) ∈ costsTx.map fun c => ([c] : Tx)))))
noncomputable def dueOf (x : Tx) : Option Tx := if dueBad x then none else bodyOf (cutL ((partL [32] x).getD 2 []) (some 3) none)
theorem par_sound {S : Tx} : ∀ (x acc p q : Tx), TL.par S acc x = some (p, q) → acc ++ x = p ++ S ++ q
  | [], acc, p, q, h => by cases h
  | c :: r, acc, p, q, h => by
    rw [TL.par] at h
    split at h
    · rename_i hp
      have h := Option.some.inj h
      obtain ⟨rfl, rfl⟩ := Prod.mk.inj h
      unfold TL.pre at hp
      have := eq_of_beq hp
      rw [List.append_assoc]
      congr 1
      conv => lhs; rw [← List.take_append_drop S.length (c :: r), this]
    · have := par_sound r (acc ++ [c]) p q h
      rw [← this]; simp
theorem first_blank {a b u v : Tx} (ha : (32 : Nat) ∉ a) (hb : (32 : Nat) ∉ b) (h : a ++ 32 :: u = b ++ 32 :: v) : a = b ∧ u = v := by
  have h1 := splitC_app (c := 32) a u [] ha
  have h2 := splitC_app (c := 32) b v [] hb
  rw [h, h2] at h1
  have e : b = a := by simpa using (List.cons.inj h1).1
  subst e
  have := List.append_cancel_left h
  exact ⟨rfl, (List.cons.inj this).2⟩
theorem pk3_iff {S x : Tx} : pk3 (32 :: S) x = true ↔ ∃ a b, isName a = true ∧ isName b = true ∧ x = a ++ 32 :: S ++ b := by
  constructor
  · intro h
    unfold pk3 partL at h
    cases hp : TL.par (32 :: S) [] x with
    | none => rw [hp] at h; simp at h
    | some z =>
      obtain ⟨a, b⟩ := z
      rw [hp] at h
      simp at h
      exact ⟨a, b, h.1, h.2, by simpa using par_sound x [] a b hp⟩
  · rintro ⟨a, b, ha, hb, rfl⟩
    unfold pk3 partL
    have := TL.par_part1 (s := 32) (S := S) (p := a) (rest := b) (acc := []) (name_nb ha)
    rw [← List.append_assoc] at this
    rw [this]
    simp [ha, hb]
theorem pkT_iff {x : Tx} : pkT x = true ↔ ∃ (a : Tx) (t : Nat), isName a = true ∧ t ≤ 7 ∧ x = a ++ tx " turned " ++ [48 + t] := by
  have e : tx " turned " = 32 :: (tx "turned" ++ [32]) := rfl
  have figs7 : ∀ d ∈ turnsTx, 48 ≤ d ∧ d ≤ 55 := by decide +kernel
  have in7 : ∀ n, n < 8 → 48 + n ∈ turnsTx := by decide +kernel
  constructor
  · intro h
    unfold pkT partL at h
    cases hp : TL.par (tx " turned ") [] x with
    | none => rw [hp] at h; simp at h
    | some z =>
      obtain ⟨a, b⟩ := z
      rw [hp] at h
      simp only [List.getD_cons_zero, List.getD_cons_succ, Bool.and_eq_true, decide_eq_true_eq] at h
      obtain ⟨h1, _, h2, h3⟩ := h
      obtain ⟨d, rfl⟩ : ∃ d, b = [d] := by
        match b, h2 with
        | [d], _ => exact ⟨d, rfl⟩
      have hd : d ∈ turnsTx := by simpa using h3
      have := figs7 d hd
      exact ⟨a, d - 48, h1, by omega, by rw [show 48 + (d - 48) = d by omega]; simpa using par_sound x [] a [d] hp⟩
  · rintro ⟨a, t, ha, ht, rfl⟩
    unfold pkT partL
    have := TL.par_part1 (s := 32) (S := tx "turned" ++ [32]) (p := a) (rest := [48 + t]) (acc := []) (name_nb ha)
    rw [← List.append_assoc] at this
    rw [e, this]
    simp [ha, in7 t (by omega)]
theorem sign_not {a b : Tx} {c : Nat} (h : isName a = true) : signOk (a ++ 32 :: c :: b) = false := by
  unfold signOk
  rw [decide_eq_false (by simp; omega)]; rfl
theorem body_of {r : RuleD} (h : r.good = true) : bodyOf r.body = some r.word := by
  unfold bodyOf
  cases r with
  | cell n c s =>
    simp only [RuleD.good, Bool.and_eq_true] at h
    show (if signOk s = true then some (tx "cell") else _) = _
    rw [if_pos h.1]; rfl
  | beside n c a b =>
    simp only [RuleD.good, Bool.and_eq_true] at h
    show (if signOk (a ++ 32 :: 124 :: 32 :: b) = true then _ else if pk3 (32 :: [124, 32]) (a ++ 32 :: 124 :: 32 :: b) = true then _ else _) = _
    rw [if_neg (by rw [sign_not h.2.1]; decide), if_pos (pk3_iff.mpr ⟨a, b, h.2.1, h.2.2, by simp⟩)]; rfl
  | above n c a b =>
    simp only [RuleD.good, Bool.and_eq_true] at h
    show (if signOk (a ++ 32 :: 47 :: 32 :: b) = true then _ else if pk3 (32 :: [124, 32]) (a ++ 32 :: 47 :: 32 :: b) = true then _ else if pk3 (32 :: [47, 32]) (a ++ 32 :: 47 :: 32 :: b) = true then _ else _) = _
    have no1 : ¬ pk3 (32 :: [124, 32]) (a ++ 32 :: 47 :: 32 :: b) = true := fun z => by
      obtain ⟨u, v, hu, hv, e⟩ := pk3_iff.mp z
      have := (first_blank (name_nb h.2.1) (name_nb hu) (by simpa using e)).2
      exact absurd (List.cons.inj this).1 (by decide)
    rw [if_neg (by rw [sign_not h.2.1]; decide), if_neg no1, if_pos (pk3_iff.mpr ⟨a, b, h.2.1, h.2.2, by simp⟩)]; rfl
  | turn n c a t =>
    simp only [RuleD.good, Bool.and_eq_true, decide_eq_true_eq] at h
    show (if signOk (a ++ 32 :: 116 :: ([117, 114, 110, 101, 100] ++ 32 :: [48 + t.toNat])) = true then _ else if pk3 (32 :: [124, 32]) (a ++ 32 :: 116 :: ([117, 114, 110, 101, 100] ++ 32 :: [48 + t.toNat])) = true then _ else if pk3 (32 :: [47, 32]) (a ++ 32 :: 116 :: ([117, 114, 110, 101, 100] ++ 32 :: [48 + t.toNat])) = true then _ else if pkT (a ++ 32 :: 116 :: ([117, 114, 110, 101, 100] ++ 32 :: [48 + t.toNat])) = true then _ else _) = _
    have no1 : ∀ (c : Nat), c ≠ 116 → ¬ pk3 (32 :: [c, 32]) (a ++ 32 :: 116 :: ([117, 114, 110, 101, 100] ++ 32 :: [48 + t.toNat])) = true := fun c hc z => by
      obtain ⟨u, v, hu, hv, e⟩ := pk3_iff.mp z
      have := (first_blank (name_nb h.2.2) (name_nb hu) (by simpa using e)).2
      exact hc (List.cons.inj this).1.symm
    rw [if_neg (by rw [sign_not h.2.2]; decide), if_neg (no1 124 (by decide)), if_neg (no1 47 (by decide)), if_pos (pkT_iff.mpr ⟨a, t.toNat, h.2.2, by omega, ?_⟩)]
    · rfl
    · show _ = a ++ (32 :: [116, 117, 114, 110, 101, 100, 32]) ++ _
      simp
theorem due_told {r : RuleD} (h : r.good = true) : dueOf r.told = some r.word := by
  have hn := (RuleD.good_of h).1
  have hb := RuleD.bounds h
  have hp : partL [32] r.told = [r.name, [32], (48 + r.cost.toNat) :: 58 :: 32 :: r.body] := by
    have := TL.par_part1 (s := 32) (S := []) (p := r.name) (rest := (48 + r.cost.toNat) :: 58 :: 32 :: r.body) (acc := []) (name_nb hn)
    unfold partL
    rw [told_eq h, show r.name ++ 32 :: (48 + r.cost.toNat) :: 58 :: 32 :: r.body = r.name ++ ([32] ++ (48 + r.cost.toNat) :: 58 :: 32 :: r.body) from rfl, this]
    rfl
  have in9 : ∀ n, n < 10 → 1 ≤ n → 48 + n ∈ costsTx := by decide +kernel
  have c1 : ∀ (d : Nat) (b : Tx), cutL (d :: 58 :: 32 :: b) (some 1) (some 3) = tx ": " := fun d b => by
    unfold cutL
    have h1 : HT.sIx (d :: 58 :: 32 :: b).length 0 (some 1) = 1 := by
      show HT.sIx (d :: 58 :: 32 :: b).length 0 (some ((1 : Nat) : Int)) = 1
      unfold HT.sIx
      simp
    have h3 : HT.sIx (d :: 58 :: 32 :: b).length (d :: 58 :: 32 :: b).length (some 3) = 3 := by
      show HT.sIx (d :: 58 :: 32 :: b).length (d :: 58 :: 32 :: b).length (some ((3 : Nat) : Int)) = 3
      unfold HT.sIx
      simp
    rw [h1, h3]
    rfl
  have c2 : ∀ (d : Nat) (b : Tx), cutL (d :: b) none (some ((1 : Nat) : Int)) = [d] := fun d b => by rw [cut_to]; rfl
  have c3 : ∀ (d : Nat) (b : Tx), cutL (d :: 58 :: 32 :: b) (some ((3 : Nat) : Int)) none = b := fun d b => by rw [cut_from]; rfl
  have hm : ([48 + r.cost.toNat] : Tx) ∈ costsTx.map fun c => ([c] : Tx) := List.mem_map.mpr ⟨_, in9 _ (by omega) (by omega), rfl⟩
  unfold dueOf dueBad
  rw [hp]
  show (if (!isName r.name || (decide (([32] : Tx) = []) || (!(decide (cutL ((48 + r.cost.toNat) :: 58 :: 32 :: r.body) (some 1) (some 3) = tx ": ")) || !(decide (cutL ((48 + r.cost.toNat) :: 58 :: 32 :: r.body) none (some ((1 : Nat) : Int)) ∈ costsTx.map fun c => ([c] : Tx)))))) = true then none else bodyOf (cutL ((48 + r.cost.toNat) :: 58 :: 32 :: r.body) (some ((3 : Nat) : Int)) none)) = _
  rw [c1, c2, c3, hn, decide_eq_true hm, decide_eq_true rfl]
  exact body_of h
theorem due_some {x w : Tx} (h : dueOf x = some w) : ∃ r : RuleD, r.good = true ∧ r.told = x ∧ r.word = w := by
  unfold dueOf dueBad at h
  split at h
  · cases h
  rename_i hcond
  unfold partL at hcond h
  cases hp : TL.par [32] [] x with
  | none =>
    rw [hp] at hcond
    simp at hcond
  | some z =>
    obtain ⟨n, b⟩ := z
    rw [hp] at hcond h
    simp only [List.getD_cons_zero, List.getD_cons_succ, Bool.or_eq_true, Bool.not_eq_true', not_or, Bool.not_eq_false, decide_eq_true_eq, decide_eq_false_iff_not, Decidable.not_not] at hcond h
    obtain ⟨hn, _, hb, hm⟩ := hcond
    have hx : x = n ++ 32 :: b := by
      have := par_sound x [] n b hp
      simpa using this
    obtain ⟨d, hd, ed⟩ := List.mem_map.mp hm
    -- b = d : ' ' rest
    have hbb : ∃ rest, b = d :: 58 :: 32 :: rest := by
      have h2 : b.take 1 = [d] := by
        have e1 : cutL b none (some ((1 : Nat) : Int)) = b.take 1 := cut_to
        rw [← e1]; exact ed.symm
      match b, h2 with
      | d' :: b', h2 =>
        obtain rfl : d' = d := (List.cons.inj h2).1
        have h3 : ((d' :: b').drop 1).take 2 = [58, 32] := by
          have e3 : cutL (d' :: b') (some 1) (some 3) = ((d' :: b').drop 1).take (min 3 (d' :: b').length - 1) := by
            unfold cutL
            have q1 : HT.sIx (d' :: b').length 0 (some 1) = 1 := by
              show HT.sIx (d' :: b').length 0 (some ((1 : Nat) : Int)) = 1
              unfold HT.sIx
              simp
            have q3 : HT.sIx (d' :: b').length (d' :: b').length (some 3) = min 3 (d' :: b').length := by
              show HT.sIx (d' :: b').length (d' :: b').length (some ((3 : Nat) : Int)) = _
              unfold HT.sIx
              simp
            rw [q1, q3]
          rw [e3] at hb
          have hl := congrArg List.length hb
          rw [List.length_take, List.length_drop] at hl
          have hl' : (tx ": ").length = 2 := rfl
          rw [hl'] at hl
          have : min 3 (d' :: b').length - 1 = 2 := by omega
          rw [this] at hb
          exact hb
        match b', h3 with
        | x1 :: x2 :: rest, h3 =>
          have h3' : [x1, x2] = [58, 32] := h3
          injection h3' with e1 e2
          injection e2 with e2 _
          exact ⟨rest, by rw [e1, e2]⟩
    obtain ⟨rest, rfl⟩ := hbb
    have hc3 : cutL (d :: 58 :: 32 :: rest) (some ((3 : Nat) : Int)) none = rest := by rw [cut_from]; rfl
    have h : bodyOf rest = some w := by rw [← h]; exact congrArg bodyOf hc3.symm
    have figs9 : ∀ d ∈ costsTx, 49 ≤ d ∧ d ≤ 57 := by decide +kernel
    have hd9 := figs9 d hd
    have hck : costOk ((d - 48 : Nat) : Int) = true := by
      unfold costOk
      rw [decide_eq_true (by omega), decide_eq_true (by omega)]; rfl
    have key : ∀ r : RuleD, r.good = true → r.name = n → r.cost = ((d - 48 : Nat) : Int) → r.body = rest → r.told = x := fun r hg q1 q2 q3 => by
      rw [told_eq hg, q1, q2, q3, hx]
      have : 48 + (((d - 48 : Nat) : Int)).toNat = d := by omega
      rw [this]
    unfold bodyOf at h
    split at h
    · rename_i hs
      have hg : (RuleD.cell n ((d - 48 : Nat) : Int) rest).good = true := by simp [RuleD.good, hs, hck, hn]
      exact ⟨_, hg, key _ hg rfl rfl rfl, Option.some.inj h⟩
    split at h
    · rename_i hs
      obtain ⟨a, b, ha, hb, e⟩ := pk3_iff.mp (show pk3 (32 :: [124, 32]) rest = true from hs)
      have hg : (RuleD.beside n ((d - 48 : Nat) : Int) a b).good = true := by simp [RuleD.good, ha, hb, hck, hn]
      exact ⟨_, hg, key _ hg rfl rfl (by rw [e]; simp [RuleD.body]), Option.some.inj h⟩
    split at h
    · rename_i hs
      obtain ⟨a, b, ha, hb, e⟩ := pk3_iff.mp (show pk3 (32 :: [47, 32]) rest = true from hs)
      have hg : (RuleD.above n ((d - 48 : Nat) : Int) a b).good = true := by simp [RuleD.good, ha, hb, hck, hn]
      exact ⟨_, hg, key _ hg rfl rfl (by rw [e]; simp [RuleD.body]), Option.some.inj h⟩
    split at h
    · rename_i hs
      obtain ⟨a, t, ha, ht, e⟩ := pkT_iff.mp hs
      have hg : (RuleD.turn n ((d - 48 : Nat) : Int) a (t : Int)).good = true := by
        simp [RuleD.good, ha, hck, hn]; omega
      refine ⟨_, hg, key _ hg rfl rfl ?_, Option.some.inj h⟩
      rw [e]
      show a ++ 32 :: (tx "turned" ++ 32 :: [48 + (t : Int).toNat]) = a ++ (32 :: (tx "turned" ++ [32])) ++ [48 + t]
      simp
    · cases h
noncomputable def small1 (b : Tx) : Bool := decide (b.length = 1) && decide (b.headD 0 ∈ smallTx)
noncomputable def body13 (h b : Tx) : Option (List Tx) :=
  if small1 b = true then some [h, b] else match splitC 32 [] b with
  | [u, v, z] => if isName u = false then none else if ((decide (v = [124]) || decide (v = [47])) && isName z) = true then some [h, u, z]
    else if (decide (v = tx "turned") && (decide (z.length = 1) && decide (z.headD 0 ∈ turnsTx))) = true then some [h, u] else none
  | _ => none
noncomputable def bad13 (x : Tx) : Bool := !isName ((partL [32] x).getD 0 []) || (!(decide (cutL ((partL [32] x).getD 2 []) (some 1) (some 3) = tx ": ")) || !(decide (cutL ((partL [32] x).getD 2 []) none (some 1) ∈ costsTx.map fun c => ([c] : Tx))))
noncomputable def partsF (x : Tx) : Option (List Tx) := if bad13 x = true then none else body13 ((partL [32] x).getD 0 []) (cutL ((partL [32] x).getD 2 []) (some 3) none)
noncomputable def partsD : RuleD → List Tx
  | .cell n _ s => [n, s]
  | .beside n _ a b => [n, a, b]
  | .above n _ a b => [n, a, b]
  | .turn n _ a _ => [n, a]
theorem bad13_due (x : Tx) : bad13 x = dueBad x := by
  unfold bad13 dueBad partL
  cases hp : TL.par [32] [] x with
  | none =>
    have e : cutL ([] : Tx) (some 1) (some 3) = [] := by simp [cutL]
    have e2 : ¬ (([] : Tx) = tx ": ") := by decide
    simp only [List.getD_cons_zero, List.getD_cons_succ, e, decide_eq_false e2]
    simp
  | some z =>
    obtain ⟨a, b⟩ := z
    simp
theorem part_told {r : RuleD} (h : r.good = true) : partL [32] r.told = [r.name, [32], (48 + r.cost.toNat) :: 58 :: 32 :: r.body] := by
  have := TL.par_part1 (s := 32) (S := []) (p := r.name) (rest := (48 + r.cost.toNat) :: 58 :: 32 :: r.body) (acc := []) (name_nb (RuleD.good_of h).1)
  unfold partL
  rw [told_eq h, show r.name ++ 32 :: (48 + r.cost.toNat) :: 58 :: 32 :: r.body = r.name ++ ([32] ++ (48 + r.cost.toNat) :: 58 :: 32 :: r.body) from rfl, this]
  rfl
theorem partsF_some {r : RuleD} (h : r.good = true) : partsF r.told = some (partsD r) := by
  have hb : bad13 r.told = false := by
    have := due_told h
    unfold dueOf at this
    split at this
    · cases this
    · rename_i hc
      rw [bad13_due]
      simpa using hc
  unfold partsF
  rw [hb, if_neg (by decide), part_told h]
  show body13 r.name (cutL ((48 + r.cost.toNat) :: 58 :: 32 :: r.body) (some ((3 : Nat) : Int)) none) = _
  rw [cut_from]
  show body13 r.name r.body = _
  have hs := body_split h
  unfold body13
  cases r with
  | cell n c s =>
    simp only [RuleD.good, Bool.and_eq_true] at h
    have h1 := h.1
    unfold signOk at h1
    simp only [Bool.and_eq_true, decide_eq_true_eq, List.all_eq_true] at h1
    have : small1 s = true := by
      unfold small1
      obtain ⟨h2, h3⟩ := h1
      match s, h2, h3 with
      | [d], _, h3 => simp [h3 d (List.mem_cons_self ..)]
    rw [show (RuleD.cell n c s).body = s from rfl, if_pos this]
    rfl
  | beside n c a b =>
    simp only [RuleD.good, Bool.and_eq_true] at h
    have hl : small1 (RuleD.beside n c a b).body = false := by
      unfold small1
      rw [decide_eq_false (by show ¬ (a ++ 32 :: 124 :: 32 :: b).length = 1; simp only [List.length_append, List.length_cons]; omega)]
      rfl
    rw [if_neg (by rw [hl]; decide), hs]
    show (if isName a = false then none else if ((decide (([124] : Tx) = [124]) || decide (([124] : Tx) = [47])) && isName b) = true then some [n, a, b] else _) = _
    rw [if_neg (by rw [h.2.1]; decide), if_pos (by rw [h.2.2]; rfl)]
    rfl
  | above n c a b =>
    simp only [RuleD.good, Bool.and_eq_true] at h
    have hl : small1 (RuleD.above n c a b).body = false := by
      unfold small1
      rw [decide_eq_false (by show ¬ (a ++ 32 :: 47 :: 32 :: b).length = 1; simp only [List.length_append, List.length_cons]; omega)]
      rfl
    rw [if_neg (by rw [hl]; decide), hs]
    show (if isName a = false then none else if ((decide (([47] : Tx) = [124]) || decide (([47] : Tx) = [47])) && isName b) = true then some [n, a, b] else _) = _
    rw [if_neg (by rw [h.2.1]; decide), if_pos (by rw [h.2.2]; rfl)]
    rfl
  | turn n c a t =>
    simp only [RuleD.good, Bool.and_eq_true, decide_eq_true_eq] at h
    have hl : small1 (RuleD.turn n c a t).body = false := by
      unfold small1
      rw [decide_eq_false (by
        show ¬ (a ++ 32 :: (tx "turned" ++ 32 :: [48 + t.toNat])).length = 1
        simp only [List.length_append, List.length_cons]
        omega)]
      rfl
    have hd : ∀ k < 8, 48 + k ∈ turnsTx := by decide +kernel
    have hk := hd t.toNat (by omega)
    have e1 : ¬ (tx "turned" = [124]) := by decide +kernel
    have e2 : ¬ (tx "turned" = [47]) := by decide +kernel
    rw [if_neg (by rw [hl]; decide), hs]
    show (if isName a = false then none else if ((decide (tx "turned" = [124]) || decide (tx "turned" = [47])) && isName [48 + t.toNat]) = true then some [n, a, [48 + t.toNat]] else if (decide (tx "turned" = tx "turned") && (decide (([48 + t.toNat] : Tx).length = 1) && decide (([48 + t.toNat] : Tx).headD 0 ∈ turnsTx))) = true then some [n, a] else none) = _
    rw [if_neg (by rw [h.2.2]; decide), decide_eq_false e1, decide_eq_false e2, if_neg (by rw [Bool.or_false, Bool.false_and]; decide), if_pos (by
      rw [decide_eq_true rfl, decide_eq_true (show ([48 + t.toNat] : Tx).length = 1 from rfl), decide_eq_true (show ([48 + t.toNat] : Tx).headD 0 ∈ turnsTx from hk)]
      rfl)]
    rfl
theorem body_any {b : Tx} (h : signOk b = true ∨ pk3 (tx " | ") b = true ∨ pk3 (tx " / ") b = true ∨ pkT b = true) : ∃ w, bodyOf b = some w := by
  unfold bodyOf
  split
  · exact ⟨_, rfl⟩
  split
  · exact ⟨_, rfl⟩
  split
  · exact ⟨_, rfl⟩
  split
  · exact ⟨_, rfl⟩
  · rename_i h1 h2 h3 h4
    rcases h with h | h | h | h
    · exact absurd h h1
    · exact absurd h h2
    · exact absurd h h3
    · exact absurd h h4
theorem body13_of {h b : Tx} {l : List Tx} (e : body13 h b = some l) : ∃ w, bodyOf b = some w := by
  unfold body13 at e
  split at e
  · rename_i hs
    unfold small1 at hs
    simp only [Bool.and_eq_true, decide_eq_true_eq] at hs
    refine body_any (.inl ?_)
    unfold signOk
    obtain ⟨h1, h2⟩ := hs
    match b, h1, h2 with
    | [d], _, h2 => simp only [List.length_cons, List.length_nil, List.all_cons, List.all_nil, Bool.and_true]; rw [decide_eq_true (show d ∈ smallTx from h2)]; rfl
  · split at e
    · rename_i u v z hsp
      have hj := splitC_join (c := 32) b []
      rw [hsp] at hj
      have hj : u ++ 32 :: (v ++ 32 :: z) = b := hj
      split at e
      · cases e
      · rename_i hu
        have hu : isName u = true := by simpa using hu
        split at e
        · rename_i hv
          simp only [Bool.and_eq_true, Bool.or_eq_true, decide_eq_true_eq] at hv
          obtain ⟨hv, hz⟩ := hv
          rcases hv with rfl | rfl
          · exact body_any (.inr (.inl ((pk3_iff (S := [124, 32])).mpr ⟨u, z, hu, hz, by rw [← hj]; simp⟩)))
          · exact body_any (.inr (.inr (.inl ((pk3_iff (S := [47, 32])).mpr ⟨u, z, hu, hz, by rw [← hj]; simp⟩))))
        · split at e
          · rename_i hv
            simp only [Bool.and_eq_true, decide_eq_true_eq] at hv
            obtain ⟨rfl, h1, h2⟩ := hv
            refine body_any (.inr (.inr (.inr (pkT_iff.mpr ?_))))
            match z, h1, h2 with
            | [d], _, h2 =>
              have hd : ∀ d ∈ turnsTx, 48 ≤ d ∧ d ≤ 55 := by decide +kernel
              have hdd := hd d h2
              refine ⟨u, d - 48, hu, by omega, ?_⟩
              rw [← hj, show 48 + (d - 48) = d by omega]
              show u ++ 32 :: (tx "turned" ++ 32 :: [d]) = u ++ (32 :: (tx "turned" ++ [32])) ++ [d]
              simp
          · cases e
    · cases e
theorem partsF_wr {x : Tx} {l : List Tx} (h : partsF x = some l) : ∃ r : RuleD, r.good = true ∧ r.told = x := by
  unfold partsF at h
  split at h
  · cases h
  · rename_i hb
    obtain ⟨w, hw⟩ := body13_of h
    have : dueOf x = some w := by
      unfold dueOf
      rw [if_neg (by rw [← bad13_due]; exact hb)]
      exact hw
    obtain ⟨r, h1, h2, _⟩ := due_some this
    exact ⟨r, h1, h2⟩
noncomputable def ok13 (x : Tx) : Bool := (partsF x).isSome
theorem wr13 : WrOk ok13 := fun x => by
  unfold ok13
  constructor
  · intro h
    obtain ⟨l, hl⟩ := Option.isSome_iff_exists.mp h
    exact partsF_wr hl
  · rintro ⟨r, hg, rfl⟩
    rw [partsF_some hg]; rfl
theorem signsOk_is (x : Tx) : signsOk x = !((!(decide (1 ≤ x.length) && decide (x.length ≤ 4))) || x.any fun c => (!decide (c ∈ smallTx)) || decide (1 < x.count c)) := by
  unfold signsOk
  have key : (decide x.Nodup && x.all fun c => decide (c ∈ smallTx)) = !(x.any fun c => (!decide (c ∈ smallTx)) || decide (1 < x.count c)) := by
    rw [Bool.eq_iff_iff, Bool.and_eq_true, decide_eq_true_eq, List.all_eq_true, Bool.not_eq_true', List.any_eq_false, List.nodup_iff_count]
    constructor
    · rintro ⟨h1, h2⟩ c hc
      have a1 := h1 c
      have a2 := of_decide_eq_true (h2 c hc)
      rw [decide_eq_true a2, decide_eq_false (by omega)]
      decide
    · intro h
      refine ⟨fun c => ?_, fun c hc => ?_⟩
      · by_cases hc : c ∈ x
        · have := h c hc
          simp only [Bool.or_eq_true, Bool.not_eq_true', decide_eq_false_iff_not, decide_eq_true_eq, not_or, Decidable.not_not] at this
          omega
        · rw [List.count_eq_zero_of_not_mem hc]; exact Nat.zero_le _
      · have := h c hc
        simp only [Bool.or_eq_true, Bool.not_eq_true', decide_eq_false_iff_not, decide_eq_true_eq, not_or, Decidable.not_not] at this
        exact decide_eq_true this.1
  rw [key]
  cases (decide (1 ≤ x.length) && decide (x.length ≤ 4)) <;> simp
noncomputable def nms13 (r : RuleD) : List Tx := r.name :: r.parts
theorem cap_small : ∀ c ∈ capTx, c ∉ smallTx := by decide +kernel
theorem name_small {n : Tx} (h : isName n = true) : n.headD 0 ∉ smallTx ∧ n ≠ [] := by
  unfold isName at h
  simp only [Bool.and_eq_true, decide_eq_true_eq, List.all_eq_true] at h
  match n, h with
  | c :: r, h =>
    exact ⟨cap_small c (h.2 c (List.mem_cons_self ..)), (fun z => nomatch z)⟩
theorem name_nowhere {n : Tx} (h : isName n = true) : (!(Builtin.Str.occurrences (sx smallTx) (sx n) 0 (sx smallTx).length 1).isEmpty) = false := by
  obtain ⟨h1, h2⟩ := name_small h
  cases hb : (!(Builtin.Str.occurrences (sx smallTx) (sx n) 0 (sx smallTx).length 1).isEmpty) with
  | false => rfl
  | true =>
    obtain ⟨i, hi, hs⟩ := (StrLaws.found_iff _ _).mp hb
    rw [StrLaws.subAt_eq] at hs
    have e1 : (sx smallTx).cps.toList = smallTx := rfl
    have e2 : (sx n).cps.toList = n := rfl
    rw [e1, e2, sx_len] at hs
    have hs := eq_of_beq hs
    match n, h2, h1, hs with
    | c :: r, _, h1, hs =>
      exfalso
      refine h1 ?_
      show c ∈ smallTx
      have : c ∈ (smallTx.drop i).take (c :: r).length := by rw [hs]; exact List.mem_cons_self ..
      exact List.mem_of_mem_drop (List.mem_of_mem_take this)
theorem o_inNm {X : Cx} {n : Tx} (h : isName n = true) : OB X (compareOp .In) n smallTx false := ob_flat op_in_str fun F H v u Q s r1 r2 q => ⟨sx n, sx smallTx, r1, r2, by rw [name_nowhere h]; exact q _ rfl⟩
local macro_rules | `(tactic| walk_at "le") => `(tactic| repeat (first | exact le_nil | refine le_cons ?_ | refine le_no ?_))
noncomputable def isNameS : Tw.Spec := fun A P _ => ∃ (x : Tx), A = [vl x] ∧ x.length ≤ 1000 ∧ P (rv (isName x))
noncomputable def parts13S : Tw.Spec := fun A P _ => ∃ (x : Tx), A = [vl x] ∧ x.length ≤ 900 ∧ (partsF x = none → P (rv (none : Option Int))) ∧ (∀ l, partsF x = some l → P (rn l))
noncomputable def bad13S : Tw.Spec := fun A P _ => ∃ (rows : List Tx), A = [vl rows] ∧ rows.length ≤ 200 ∧ (∀ x ∈ rows, x.length ≤ 900) ∧ P (rv ((badF ok13 0 rows).map fun (k : Nat) => (k : Int)))
noncomputable def fault13S : Tw.Spec := fun A P _ => ∃ (a b : Tx) (rs : List RuleD), A = [vl (a :: b :: rs.map RuleD.told)] ∧ (∀ r ∈ rs, r.good = true) ∧ rs.length ≤ 100 ∧ a.length ≤ 900 ∧ b.length ≤ 900 ∧ P (rv (whyG (a.drop 6) (b.drop 6) rs))
theorem nodup_le2 {l : List Tx} : ∀ {m : List Tx}, l.Nodup → (∀ x ∈ l, x ∈ m) → l.length ≤ m.length := by
  induction l with
  | nil => intro m _ _; exact Nat.zero_le _
  | cons x l ih =>
    intro m nd sub
    rw [List.nodup_cons] at nd
    have hx := sub x (List.mem_cons_self ..)
    have h1 := ih (m := m.erase x) nd.2 fun y hy => (List.mem_erase_of_ne fun (e : y = x) => nd.1 (e ▸ hy)).mpr (sub y (List.mem_cons_of_mem _ hy))
    rw [List.length_erase_of_mem hx] at h1
    have := List.length_pos_of_mem hx
    rw [List.length_cons]
    omega
theorem addNew_nd {met : List Tx} {n : Tx} (h : met.Nodup) : (addNew met n).Nodup := by
  unfold addNew
  split
  · exact h
  · rename_i hn
    rw [List.nodup_append]
    refine ⟨h, by simp, fun a ha b hb e => ?_⟩
    rw [List.mem_singleton.mp hb] at e
    exact hn (e ▸ ha)
theorem addAll_nd : ∀ {ns met : List Tx}, met.Nodup → (ns.foldl addNew met).Nodup
  | [], _, h => h
  | n :: ns, met, h => addAll_nd (ns := ns) (addNew_nd h)
theorem metAll_nd : ∀ {rs : List RuleD} {met : List Tx}, met.Nodup → (rs.foldl metR met).Nodup
  | [], _, h => h
  | r :: rs, met, h => metAll_nd (rs := rs) (addAll_nd h)
theorem metL_nd (start : Tx) (rs : List RuleD) : (metL start rs).Nodup := metAll_nd (by simp)
theorem partL_at {sep x : Tx} : (∀ i : Nat, i < 3 → atI (partL sep x) (i : Int) = some ((partL sep x).getD i [])) ∧ ∀ i, ((partL sep x).getD i []).length ≤ x.length + sep.length := by
  unfold partL
  cases hp : TL.par sep [] x with
  | none =>
    refine ⟨fun i hi => ?_, fun i => ?_⟩
    · rcases (by omega : i = 0 ∨ i = 1 ∨ i = 2) with rfl | rfl | rfl <;> exact atI_nat rfl
    · match i with
      | 0 => exact Nat.le_add_right _ _
      | 1 => exact Nat.zero_le _
      | 2 => exact Nat.zero_le _
      | i + 3 => exact Nat.zero_le _
  | some z =>
    obtain ⟨a, b⟩ := z
    have := congrArg List.length (par_sound x [] a b hp)
    simp only [List.length_append, List.nil_append] at this
    refine ⟨fun i hi => ?_, fun i => ?_⟩
    · rcases (by omega : i = 0 ∨ i = 1 ∨ i = 2) with rfl | rfl | rfl <;> exact atI_nat rfl
    · match i with
      | 0 => show a.length ≤ _; omega
      | 1 => exact Nat.le_add_left _ _
      | 2 => show b.length ≤ _; omega
      | i + 3 => exact Nat.zero_le _
theorem body13_none {h b : Tx} (hs : small1 b = false) (hl : (splitC 32 [] b).length ≠ 3) : body13 h b = none := by
  unfold body13
  rw [if_neg (by rw [hs]; decide)]
  split
  · rename_i e
    rw [e] at hl
    exact absurd rfl hl
  · rfl
theorem body13_words {h b u v z : Tx} (hs : small1 b = false) (hw : splitC 32 [] b = [u, v, z]) : body13 h b = if isName u = false then none else if ((decide (v = [124]) || decide (v = [47])) && isName z) = true then some [h, u, z]
    else if (decide (v = tx "turned") && (decide (z.length = 1) && decide (z.headD 0 ∈ turnsTx))) = true then some [h, u] else none := by
  unfold body13
  rw [if_neg (by rw [hs]; decide), hw]
section
variable {P : Program} {w : World} {K : PySem.W.Frag} {mg : Str → Option Value} {base : Heap}
theorem ok_law_is_name (T : Txt K mg) : Has P w K mg base 1 "_law_is_name" ["_law_text"] isNameS := by
  refine Has.of T.f_law_is_name sc_law_is_name (fun A Q R ⟨x, e, _⟩ => by rw [e]; rfl) fun f cdv A outer s0 H E hr Γ Q R ⟨x, e, hl, hq⟩ => ?_
  subst e
  refine st_retV (ev_eq (y := isName x) (ev_and2 (ev_chain o_le (fun _ => o_le) ev_int (ev_lenS T.b_len (ev_var 0) (sl_small (by omega))) (fun _ => ev_int)) fun _ => ev_all T.b_all (ev_of_en (en_lc (α := Tx) (β := Bool) (own := [("_law_sign", 1)]) (f := fun y => decide (y.headD 0 ∈ capTx)) (src_str (ev_var 0)) (tg_name 1) (fun _ _ _ _ _ => pgn 1 sc_law_is_name.nd)
    (fun y hy _ _ _ _ _ => ?_) sc_law_is_name.nd (ok := bk_law_is_name (by decide +kernel)) (hz := by rw [List.length_map]; exact sl_small (by omega))))) ?_) hq
  · obtain ⟨c, _, rfl⟩ := List.mem_map.mp hy
    exact ev_cmp o_inS (ev_var 1) (ev_str _)
  · unfold isName
    rw [List.map_map, List.all_map]
    congr 1
    congr 1
    · exact decide_eq_decide.mpr (by omega)
    · exact decide_eq_decide.mpr (by omega)
theorem ok_law_parts (T : Txt K mg) : Has P w K mg base 3 "_law_parts" ["_law_text"] parts13S := by
  refine Has.of (k := 2) T.f_law_parts sc_law_parts (fun A Q R ⟨x, e, _⟩ => by rw [e]; rfl) fun f cdv A outer s0 H E hr Γ Q R ⟨x, e, hl, h1, h2⟩ => ?_
  subst e
  obtain ⟨q1, q2⟩ := partL_at (sep := [32]) (x := x)
  have hs1 : ([32] : Tx).length = 1 := rfl
  rw [hs1] at q2
  have q22 : ((partL [32] x).getD 2 []).length ≤ 900 := by
    unfold partL
    cases hp : TL.par [32] [] x with
    | none => exact Nat.zero_le _
    | some z =>
      obtain ⟨a, b⟩ := z
      have := congrArg List.length (par_sound x [] a b hp)
      simp only [List.length_append, List.nil_append] at this
      show b.length ≤ 900
      omega
  refine st_set 1 (x := Tup.mk (partL [32] x)) (ev_part (ev_var 0) (ev_str " ") (by decide) (sl_small (by omega))) ?_ sc_law_parts.nd
  refine st_if (k := bad13 x) (et_or3 (et_not (et_val (ev_call (ok_law_is_name T) (hr.mono (by decide)) (ea_cons (ev_ixT (xs := Tup.mk (partL [32] x)) (ev_var 1) ev_int (q1 0 (by decide))) ea_nil) fun P R h => ⟨_, rfl, by have := q2 0; omega, h⟩)))
    (fun _ => et_cmp o_neS (ev_sliceS (o1 := some 1) (o2 := some 3) (ev_ixT (xs := Tup.mk (partL [32] x)) (ev_var 1) ev_int (q1 2 (by decide))) ev_int ev_int (sl_small (by omega))) (ev_str ": "))
    (fun _ _ => et_cmp o_notInLS (ev_sliceS (o1 := none) (o2 := some 1) (ev_ixT (xs := Tup.mk (partL [32] x)) (ev_var 1) ev_int (q1 2 (by decide))) trivial ev_int (sl_small (by omega))) (ev_of_en (en_listS T.b_list (ev_str "123456789") (by decide +kernel))))) (fun h => ?_) (fun h => st_nil ?_)
  · exact st_retV (ev_nonO (i := repInt)) (h1 (if_pos h))
  have hpF : partsF x = body13 ((partL [32] x).getD 0 []) (cutL ((partL [32] x).getD 2 []) (some 3) none) := if_neg (by rw [h]; decide)
  rw [hpF] at h1
  have h2 : ∀ l, body13 ((partL [32] x).getD 0 []) (cutL ((partL [32] x).getD 2 []) (some 3) none) = some l → Q (rn l) := fun l hl => h2 l (hpF.trans hl)
  have hbl : (cutL ((partL [32] x).getD 2 []) (some 3) none).length ≤ 900 := Nat.le_trans cutL_len q22
  refine st_set 2 (x := cutL ((partL [32] x).getD 2 []) (some 3) none) (ev_sliceS (o1 := some 3) (o2 := none) (ev_ixT (xs := Tup.mk (partL [32] x)) (ev_var 1) ev_int (q1 2 (by decide))) ev_int trivial (sl_small (by omega))) ?_ sc_law_parts.nd
  have q10 := q1 0 (by decide)
  have q20 := q2 0
  generalize (partL [32] x).getD 0 [] = h0 at h1 h2 q10 q20
  generalize cutL ((partL [32] x).getD 2 []) (some 3) none = b at h1 h2 hbl
  have rest : small1 b = false → Tw.ST (cxOf (CXm P w K) P w K mg base N_law_parts "_law_parts" (defScope s_law_parts) f cdv A outer s0 H E).nox ((defBody s_law_parts).drop 4) [vl x, vl (Tup.mk (partL [32] x)), vl b, .no] (fin Q) := fun hs => by
    obtain ⟨hwl, hwe⟩ := splitC_len (c := 32) b []
    refine st_set 3 (x := splitC 32 [] b) (ev_of_en (en_split (c := 32) (ev_var 2) (ev_str " ") (by decide) (sl_small (by omega)))) ?_ sc_law_parts.nd
    by_cases h3 : (splitC 32 [] b).length ≠ 3
    · refine st_if (k := true) (et_eq (et_or (k := true) (m := true) (et_eq (et_cmp o_ne (ev_len T.b_len (ev_var (x := splitC 32 [] b) 3)) ev_int) (by rw [decide_eq_false (by omega)]; rfl)) fun h => nomatch h) rfl) (fun _ => ?_) (fun h => nomatch h)
      exact st_retV (ev_nonO (i := repInt)) (h1 (body13_none hs h3))
    have h3 : (splitC 32 [] b).length = 3 := Classical.not_not.mp h3
    obtain ⟨u, v, z, hw⟩ : ∃ u v z, splitC 32 [] b = [u, v, z] := by
      match splitC 32 [] b, h3 with
      | [u, v, z], _ => exact ⟨u, v, z, rfl⟩
    rw [hw] at hwe
    have lu := hwe u (by simp)
    have lv := hwe v (by simp)
    have lz := hwe z (by simp)
    have hB := body13_words (h := h0) hs hw
    rw [hB] at h1
    have h2 := fun l (hl : (if isName u = false then none else if ((decide (v = [124]) || decide (v = [47])) && isName z) = true then some [h0, u, z] else if (decide (v = tx "turned") && (decide (z.length = 1) && decide (z.headD 0 ∈ turnsTx))) = true then some [h0, u] else none) = some l) => h2 l (hB.trans hl)
    rw [hw]
    have i0 : atI [u, v, z] 0 = some u := atI_nat (j := 0) rfl
    have i1 : atI [u, v, z] 1 = some v := atI_nat (j := 1) rfl
    have i2 : atI [u, v, z] 2 = some z := atI_nat (j := 2) rfl
    refine st_if (k := !isName u) (et_eq (et_or (k := false) (m := !isName u) (et_eq (et_cmp o_ne (ev_len T.b_len (ev_var (x := [u, v, z]) 3)) ev_int) rfl) fun _ => et_not (et_val (ev_call (x := isName u) (ok_law_is_name T) (hr.mono (by decide)) (ea_cons (x := u) (ev_ixL (xs := [u, v, z]) (ev_var 3) ev_int i0) ea_nil) fun P R h => ⟨_, rfl, by simp at lu; omega, h⟩))) rfl) (fun h => ?_) (fun h => st_nil ?_)
    · have h : isName u = false := by simpa using h
      exact st_retV (ev_nonO (i := repInt)) (h1 (if_pos h))
    have h : isName u = true := by simpa using h
    rw [if_neg (by rw [h]; decide)] at h1
    have h2 := fun l hl => h2 l ((if_neg (by rw [h]; decide)).trans hl)
    refine st_if (k := (decide (v = [124]) || decide (v = [47])) && isName z) (et_and (et_eq (et_cmp o_inTS (ev_ixL (xs := [u, v, z]) (ev_var 3) ev_int i1) (ev_tupH (es_cons (ev_str "|") (es_cons (ev_str "/") es_nil)))) ?_) fun _ => et_val (ev_call (x := isName z) (ok_law_is_name T) (hr.mono (by decide)) (ea_cons (x := z) (ev_ixL (xs := [u, v, z]) (ev_var 3) ev_int i2) ea_nil) fun P R h => ⟨_, rfl, by simp at lz; omega, h⟩)) (fun h => ?_) (fun h => st_nil ?_)
    · rw [Bool.eq_iff_iff, decide_eq_true_eq, Bool.or_eq_true, decide_eq_true_eq, decide_eq_true_eq]
      show v ∈ [tx "|", tx "/"] ↔ _
      rw [List.mem_cons, List.mem_singleton]
      exact Iff.rfl
    · exact st_retE (en_lst (es_cons (x := h0) (ev_ixT (xs := Tup.mk (partL [32] x)) (ev_var 1) ev_int q10) (es_cons (x := u) (ev_ixL (xs := [u, v, z]) (ev_var 3) ev_int i0) (es_cons (x := z) (ev_ixL (xs := [u, v, z]) (ev_var 3) ev_int i2) es_nil)))) (h2 _ (if_pos h))
    rw [if_neg (by rw [h]; decide)] at h1
    have h2 := fun l hl => h2 l ((if_neg (by rw [h]; decide)).trans hl)
    have last : z.length ≠ 1 ∨ ∃ d, z = [d] := by
      by_cases h : z.length = 1
      · match z, h with
        | [d], _ => exact .inr ⟨d, rfl⟩
      · exact .inl h
    refine st_if (k := decide (v = tx "turned") && (decide (z.length = 1) && decide (z.headD 0 ∈ turnsTx))) (et_and3 (et_cmp o_eqS (ev_ixL (xs := [u, v, z]) (ev_var 3) ev_int i1) (ev_str "turned")) (fun _ => et_eq (et_cmp o_eq (ev_lenS T.b_len (ev_ixL (xs := [u, v, z]) (ev_var 3) ev_int i2) (sl_small (by simp at lz; omega))) ev_int) (decide_eq_decide.mpr (by omega))) (fun _ hz1 => ?_)) (fun h => ?_) (fun h => st_nil ?_)
    · rcases last with h | ⟨d, rfl⟩
      · exact absurd (of_decide_eq_true hz1) h
      · exact et_cmp (o_inS (c := d)) (ev_ixL (xs := [u, v, [d]]) (ev_var 3) ev_int i2) (ev_str _)
    · exact st_retE (en_lst (es_cons (x := h0) (ev_ixT (xs := Tup.mk (partL [32] x)) (ev_var 1) ev_int q10) (es_cons (x := u) (ev_ixL (xs := [u, v, z]) (ev_var 3) ev_int i0) es_nil))) (h2 _ (if_pos h))
    · exact st_retV (ev_nonO (i := repInt)) (h1 (if_neg (by rw [h]; decide)))
  by_cases hb1 : b.length = 1
  · obtain ⟨d, rfl⟩ : ∃ d, b = [d] := by
      match b, hb1 with
      | [d], _ => exact ⟨d, rfl⟩
    refine st_if (k := small1 [d]) (et_eq (et_and (k := true) (m := decide (d ∈ smallTx)) (et_eq (et_cmp o_eq (ev_lenS T.b_len (ev_var (x := [d]) 2) (sl_small (by omega))) ev_int) rfl) fun _ => et_cmp (o_inS (c := d)) (ev_var 2) (ev_str _)) rfl) (fun h => ?_) (fun h => st_nil (rest h))
    refine st_retE (en_lst (es_cons (x := h0) (ev_ixT (xs := Tup.mk (partL [32] x)) (ev_var 1) ev_int q10) (es_cons (x := [d]) (ev_var 2) es_nil))) (h2 _ ?_)
    unfold body13
    rw [if_pos h]
  · have hs : small1 b = false := by
      unfold small1
      rw [decide_eq_false hb1]; rfl
    refine st_if (k := false) (et_eq (et_and (k := false) (m := false) (et_eq (et_cmp o_eq (ev_lenS T.b_len (ev_var (x := b) 2) (sl_small (by omega))) ev_int) (decide_eq_false (by omega))) fun h => nomatch h) rfl) (fun h => nomatch h) (fun _ => st_nil (rest hs))
theorem ok_law_bad_row (T : Txt K mg) : Has P w K mg base 5 "_law_bad_row" ["_law_rows"] bad13S := by
  refine Has.of (k := 4) T.f_law_bad_row sc_law_bad_row (fun A Q R ⟨rows, e, _⟩ => by rw [e]; rfl) fun f cdv A outer s0 H E hr Γ Q R ⟨rows, e, hl, hx, hq⟩ => ?_
  subst e
  refine st_for (xs := enumL rows) (fun m Γ' => Le Γ' [vl rows, .no, .no] ∧ ∀ i, i < m → ∀ y, rows[i]? = some y → badAt ok13 i y = false) (src_enum T.b_enumerate (ev_var 0)) (tg_pair 1 2 (by decide)) ⟨by walk_at "le", fun i hi => by omega⟩ (fun m x Γ' hm hI => ?_) (fun Γ' hI => ?_) (pg2 1 2 (pgn 1 sc_law_bad_row.nd) (pgn 2 sc_law_bad_row.nd))
  · obtain ⟨le, hI⟩ := hI
    obtain ⟨n, y⟩ := x
    obtain ⟨rfl, hy⟩ := enumL_get hm
    have hyl := hx y (List.mem_of_getElem? hy)
    refine st_le (Le.set (Le.set le 1 _) 2 _) ?_
    refine st_le (Γ' := [vl rows, vl (m : Int), vl y]) (by walk_at "le") ?_
    refine st_if (k := badAt ok13 m y) ?_ (fun h => ?_) (fun h => st_nil (st_nil ⟨by walk_at "le", fun i hi z hz => ?_⟩))
    rotate_left
    · refine st_retV (x := some (m : Int)) (ev_some (ev_var (x := (m : Int)) 1)) ?_
      have := bad_at (ok := ok13) (xs := rows) (k := 0) (j := m) hy (by rw [Nat.zero_add]; exact h) fun i hi z hz => by rw [Nat.zero_add]; exact hI i hi z hz
      rw [Nat.zero_add] at this
      rw [this] at hq
      exact hq
    · by_cases him : i < m
      · exact hI i him z hz
      · obtain rfl : i = m := by omega
        rw [hy] at hz
        cases hz
        exact h
    have sl6 : ∀ {t : Tx}, True := fun {_} => trivial
    have e6 : cutL y none (some ((6 : Nat) : Int)) = y.take 6 := cutL_to 6
    match m with
    | 0 =>
      refine et_eq (et_or3 (k := !decide (y.take 6 = sgH)) (m := false) (n := false) (et_eq (et_and (k := true) (m := !decide (y.take 6 = sgH)) (et_eq (et_cmp o_eq (ev_var (x := ((0 : Nat) : Int)) 1) ev_int) rfl) fun _ => et_cmp o_neS (ev_eq (ev_sliceS (x := y) (o1 := none) (o2 := some ((6 : Nat) : Int)) (ev_var 2) trivial ev_int (sl_small (by omega))) e6) (ev_str "signs ")) rfl)
        (fun _ => et_eq (et_and (k := false) (m := false) (et_eq (et_cmp o_eq (ev_var (x := ((0 : Nat) : Int)) 1) ev_int) rfl) fun h => nomatch h) rfl) fun _ _ => et_eq (et_and (k := false) (m := false) (et_eq (et_cmp o_gt (ev_var (x := ((0 : Nat) : Int)) 1) ev_int) rfl) fun h => nomatch h) rfl) ?_
      show _ = !decide (y.take 6 = sgH)
      simp
    | 1 =>
      refine et_eq (et_or3 (k := false) (m := !decide (y.take 6 = stH)) (n := false) (et_eq (et_and (k := false) (m := false) (et_eq (et_cmp o_eq (ev_var (x := ((1 : Nat) : Int)) 1) ev_int) rfl) fun h => nomatch h) rfl)
        (fun _ => et_eq (et_and (k := true) (m := !decide (y.take 6 = stH)) (et_eq (et_cmp o_eq (ev_var (x := ((1 : Nat) : Int)) 1) ev_int) rfl) fun _ => et_cmp o_neS (ev_eq (ev_sliceS (x := y) (o1 := none) (o2 := some ((6 : Nat) : Int)) (ev_var 2) trivial ev_int (sl_small (by omega))) e6) (ev_str "start ")) rfl) fun _ _ => et_eq (et_and (k := false) (m := false) (et_eq (et_cmp o_gt (ev_var (x := ((1 : Nat) : Int)) 1) ev_int) rfl) fun h => nomatch h) rfl) ?_
      show _ = !decide (y.take 6 = stH)
      simp
    | m + 2 =>
      have c0 : decide (((m + 2 : Nat) : Int) = 0) = false := decide_eq_false (by omega)
      have c1 : decide (((m + 2 : Nat) : Int) = 1) = false := decide_eq_false (by omega)
      have c2 : decide (1 < ((m + 2 : Nat) : Int)) = true := decide_eq_true (by omega)
      cases hp : partsF y with
      | none =>
        exact et_eq (et_or3 (k := false) (m := false) (n := true) (et_eq (et_and (k := false) (m := false) (et_eq (et_cmp o_eq (ev_var (x := ((m + 2 : Nat) : Int)) 1) ev_int) c0) fun h => nomatch h) rfl)
          (fun _ => et_eq (et_and (k := false) (m := false) (et_eq (et_cmp o_eq (ev_var (x := ((m + 2 : Nat) : Int)) 1) ev_int) c1) fun h => nomatch h) rfl) fun _ _ => et_eq (et_and (k := true) (m := true) (et_eq (et_cmp o_gt (ev_var (x := ((m + 2 : Nat) : Int)) 1) ev_int) c2) fun _ => et_cmp (o_isO (x := (none : Option Int))) (ev_call (x := (none : Option Int)) (ok_law_parts T) (hr.mono (by decide)) (ea_cons (x := y) (ev_var 2) ea_nil) fun P' R' h => ⟨y, rfl, hyl, fun _ => h, fun l hl => (by rw [hp] at hl; cases hl)⟩) ev_non) rfl) (by show _ = !ok13 y; unfold ok13; rw [hp]; rfl)
      | some l =>
        exact et_eq (et_or3 (k := false) (m := false) (n := false) (et_eq (et_and (k := false) (m := false) (et_eq (et_cmp o_eq (ev_var (x := ((m + 2 : Nat) : Int)) 1) ev_int) c0) fun h => nomatch h) rfl)
          (fun _ => et_eq (et_and (k := false) (m := false) (et_eq (et_cmp o_eq (ev_var (x := ((m + 2 : Nat) : Int)) 1) ev_int) c1) fun h => nomatch h) rfl) fun _ _ => et_eq (et_and (k := true) (m := false) (et_eq (et_cmp o_gt (ev_var (x := ((m + 2 : Nat) : Int)) 1) ev_int) c2) fun _ => et_cmp (o_isO (x := some l)) (ev_some (ev_of_en (en_call (ok_law_parts T) (hr.mono (by decide)) (ea_cons (x := y) (ev_var 2) ea_nil) fun P' R' h => ⟨y, rfl, hyl, fun z => (by rw [hp] at z; cases z), fun l' hl => (by rw [hp] at hl; cases hl; exact h)⟩))) ev_non) rfl) (by show _ = !ok13 y; unfold ok13; rw [hp]; rfl)
  · obtain ⟨le, hI⟩ := hI
    rw [enumL_len] at hI
    have := bad_end (ok := ok13) (xs := rows) (k := 0) fun i y hy => by
      rw [Nat.zero_add]
      exact hI i (List.getElem?_eq_some_iff.mp hy).1 y hy
    rw [Nat.zero_add] at this
    rw [this] at hq
    refine st_le le ?_
    by_cases h2 : rows.length < 2
    · rw [if_pos h2] at hq
      refine st_if (k := true) (et_eq (et_cmp o_lt (ev_len T.b_len (ev_var (x := rows) 0)) ev_int) (decide_eq_true (by omega))) (fun _ => ?_) (fun h => nomatch h)
      exact st_retV (x := some (rows.length : Int)) (ev_some (ev_len T.b_len (ev_var (x := rows) 0))) hq
    · rw [if_neg h2] at hq
      refine st_if (k := false) (et_eq (et_cmp o_lt (ev_len T.b_len (ev_var (x := rows) 0)) ev_int) (decide_eq_false (by omega))) (fun h => nomatch h) (fun _ => st_nil ?_)
      exact st_retV (x := (none : Option Int)) ev_nonO hq
end
local macro_rules | `(tactic| walk_at "le") => `(tactic| repeat (first | exact le_nil | refine le_cons ?_ | refine le_no ?_))
theorem same_len {xs ys : List Tx} (hx : xs.Nodup) (hy : ys.Nodup) (h : ∀ n, n ∈ xs ↔ n ∈ ys) : xs.length = ys.length :=
  Nat.le_antisymm (nodup_le2 hx fun n hn => (h n).mp hn) (nodup_le2 hy fun n hn => (h n).mpr hn)
section
variable {P : Program} {w : World} {K : PySem.W.Frag} {mg : Str → Option Value} {base : Heap}
theorem ok_law_fault (T : Txt K mg) : Has P w K mg base 6 "_law_fault" ["_law_rows"] fault13S := by
  refine Has.of (k := 5) T.f_law_fault sc_law_fault (fun A Q R ⟨a, b, rs, e, _⟩ => by rw [e]; rfl) fun f cdv A outer s0 H E hr Γ Q R ⟨a, b, rs, e, hg, hrs, la, lb, hq⟩ => ?_
  subst e
  have d0 : cutL a (some 6) none = a.drop 6 := cutL_from 6
  have d1 : cutL b (some 6) none = b.drop 6 := cutL_from 6
  have lenR : (a :: b :: rs.map RuleD.told).length = rs.length + 2 := by rw [List.length_cons, List.length_cons, List.length_map]
  have told_le : ∀ r ∈ rs, r.told.length ≤ 900 := fun r hr' => Nat.le_trans (RuleD.told_len (hg r hr')) (by decide)
  refine st_set 1 (x := a.drop 6) (ev_eq (ev_sliceS (x := a) (o1 := some 6) (o2 := none) (ev_ixL (xs := a :: b :: rs.map RuleD.told) (ev_var 0) ev_int (atI_nat (j := 0) rfl)) ev_int trivial (sl_small (by omega))) d0) ?_ sc_law_fault.nd
  refine st_set 2 (x := b.drop 6) (ev_eq (ev_sliceS (x := b) (o1 := some 6) (o2 := none) (ev_ixL (xs := a :: b :: rs.map RuleD.told) (ev_var 0) ev_int (atI_nat (j := 1) rfl)) ev_int trivial (sl_small (by omega))) d1) ?_ sc_law_fault.nd
  have lsg : (a.drop 6).length ≤ 900 := by rw [List.length_drop]; omega
  have lst : (b.drop 6).length ≤ 900 := by rw [List.length_drop]; omega
  generalize a.drop 6 = sg at hq lsg
  generalize b.drop 6 = st0 at hq lst
  refine st_set 3 (x := smallTx) (ev_str "abcdefghijklmnopqrstuvwxyz") ?_ sc_law_fault.nd
  refine st_if (k := !signsOk sg) (et_eq (et_or (k := !(decide (1 ≤ sg.length) && decide (sg.length ≤ 4))) (m := sg.any fun c => (!decide (c ∈ smallTx)) || decide (1 < sg.count c)) (et_not (et_eq (et_chain o_le (fun _ => o_le) ev_int (ev_lenS T.b_len (ev_var (x := sg) 1) (sl_small (by omega))) (fun _ => ev_int)) ?_))
    fun _ => et_val (ev_eq (ev_any (bs := (sg.map fun c => ([c] : Tx)).map fun s => (!decide (s.headD 0 ∈ smallTx)) || decide (1 < sg.count (s.headD 0))) T.b_any (ev_of_en (en_lc (α := Tx) (β := Bool) (own := [("_law_x", 7)]) (f := fun s => (!decide (s.headD 0 ∈ smallTx)) || decide (1 < sg.count (s.headD 0))) (src_str (x := sg) (ev_var 1)) (tg_name 7) (fun _ _ _ _ _ => pgn 7 sc_law_fault.nd) (fun s hs _ _ _ _ _ => ?_) sc_law_fault.nd (ok := bk_law_fault (by decide +kernel)) (hz := by rw [List.length_map]; exact sl_small (by omega))))) ?_)) ?_) (fun h => ?_) (fun h => st_nil ?_)
  · rw [Bool.eq_iff_iff, Bool.and_eq_true, Bool.and_eq_true, decide_eq_true_eq, decide_eq_true_eq, decide_eq_true_eq, decide_eq_true_eq]
    omega
  · obtain ⟨c, _, rfl⟩ := List.mem_map.mp hs
    exact ev_or2 (ev_cmp o_notInS (ev_var 7) (ev_var 3)) fun _ => ev_eq (ev_cmp o_gt (ev_count1 (x := sg) (y := c) (ev_var 1) (ev_var 7)) ev_int) (decide_eq_decide.mpr (by show (1 : Int) < ((sg.count c : Nat) : Int) ↔ _; show _ ↔ 1 < sg.count c; omega))
  · rw [List.map_map, List.any_map]
    rfl
  · rw [signsOk_is, Bool.not_not]
  · have h' : signsOk sg = false := by simpa using h
    rw [show whyG sg st0 rs = some ⟨tx "signs", []⟩ from if_pos h'] at hq
    exact st_retV (ev_some (ev_why (ev_str "signs") es_nil)) hq
  have g1 : signsOk sg = true := by simpa using h
  refine st_if (et_not (et_val (ev_call (x := isName st0) (ok_law_is_name T) (hr.mono (by decide)) (ea_cons (ev_var 2) ea_nil) fun P R h => ⟨st0, rfl, by omega, h⟩))) (fun h => ?_) (fun h => st_nil ?_)
  · have h' : isName st0 = false := by simpa using h
    rw [show whyG sg st0 rs = some ⟨tx "start", []⟩ from by unfold whyG; rw [if_neg (by rw [g1]; decide), if_pos h']] at hq
    exact st_retV (ev_some (ev_why (ev_str "start") es_nil)) hq
  have g2 : isName st0 = true := by simpa using h
  have eW : whyG sg st0 rs = (match whyRules sg rs with
    | some y => some y
    | none => if 8 < (metL st0 rs).length then some (⟨tx "names", [((metL st0 rs).length : Int)]⟩ : Why) else none) := by
    unfold whyG
    rw [if_neg (by rw [g1]; decide), if_neg (by rw [g2]; decide)]
    all_goals (cases whyRules sg rs <;> rfl)
  rw [eW] at hq
  by_cases h24 : 24 < rs.length
  · refine st_if (k := true) (et_eq (et_cmp o_gt (ev_len T.b_len (ev_var (x := a :: b :: rs.map RuleD.told) 0)) ev_int) (decide_eq_true (by rw [lenR]; omega))) (fun _ => ?_) (fun h => nomatch h)
    rw [show whyRules sg rs = some ⟨tx "rules", [(rs.length : Int)]⟩ from if_pos h24] at hq
    exact st_retV (ev_some (ev_why (ev_str "rules") (es_cons (x := (rs.length : Int)) (ev_eq (ev_bin o_sub (ev_len T.b_len (ev_var (x := a :: b :: rs.map RuleD.told) 0)) ev_int) (by rw [lenR]; omega)) es_nil))) hq
  refine st_if (k := false) (et_eq (et_cmp o_gt (ev_len T.b_len (ev_var (x := a :: b :: rs.map RuleD.told) 0)) ev_int) (decide_eq_false (by rw [lenR]; omega))) (fun h => nomatch h) (fun _ => st_nil ?_)
  rw [show whyRules sg rs = (badSign sg 0 rs).map fun (k : Nat) => ⟨tx "sign", [(k : Int)]⟩ from if_neg h24] at hq
  refine st_setN 4 (xs := [st0]) (en_lst (es_cons (ev_var 2) es_nil)) (fun a4 => ?_) sc_law_fault.nd
  refine st_for (xs := rng 2 (((a :: b :: rs.map RuleD.told).length : Int) - 2).toNat) (fun m Γ' => ∃ M : List Tx, Le Γ' [vl (a :: b :: rs.map RuleD.told), vl sg, .no, vl smallTx, .lst repTx a4 M, .no, .no, .no, .no] ∧ badSign sg m (rs.drop m) = badSign sg 0 rs ∧ (∀ n, n ∈ M ↔ n ∈ metL st0 (rs.take m)) ∧ M.length ≤ 1 + 3 * m)
    (src_range2 (m := 2) (n := ((a :: b :: rs.map RuleD.told).length : Int)) T.b_range ev_int (ev_len T.b_len (ev_var (x := a :: b :: rs.map RuleD.told) 0)) (by rw [lenR]; omega)) (tg_name 5) ⟨[st0], by walk_at "le", rfl, fun n => Iff.rfl, Nat.le_refl _⟩ (fun m x Γ' hm hI => ?_) (fun Γ' hI => ?_) (pgn 5 sc_law_fault.nd)
  · obtain ⟨M, le, hbad, hM, hMl⟩ := hI
    have hxm : x = 2 + (m : Int) ∧ m < rs.length := by
      unfold rng at hm
      rw [List.getElem?_map] at hm
      obtain ⟨u, hu, e⟩ := Option.map_eq_some_iff.mp hm
      obtain ⟨hlt, hu2⟩ := List.getElem?_eq_some_iff.mp hu
      rw [List.getElem_range] at hu2
      rw [List.length_range, lenR] at hlt
      have e : 2 + (u : Int) = x := e
      constructor <;> omega
    obtain ⟨rfl, hml⟩ := hxm
    obtain ⟨r, hrm⟩ : ∃ r, rs[m]? = some r := ⟨_, List.getElem?_eq_getElem hml⟩
    have hrmem := List.mem_of_getElem? hrm
    have hgr := hg r hrmem
    have hrow : (a :: b :: rs.map RuleD.told)[m + 2]? = some r.told := by
      show (rs.map RuleD.told)[m]? = _
      rw [List.getElem?_map, hrm]; rfl
    rw [badSign_drop hrm] at hbad
    refine st_le (Le.set le 5 _) ?_
    refine st_le (Γ' := [vl (a :: b :: rs.map RuleD.told), vl sg, .no, vl smallTx, .lst repTx a4 M, vl (2 + (m : Int)), .no, .no, .no]) (by walk_at "le") ?_
    refine st_setN 6 (xs := partsD r) (en_call (ok_law_parts T) (hr.mono (by decide)) (ea_cons (x := r.told) (ev_ixL (xs := a :: b :: rs.map RuleD.told) (ev_var 0) (ev_var 5) (by rw [show (2 : Int) + (m : Int) = ((m + 2 : Nat) : Int) by omega]; exact atI_nat hrow)) ea_nil) fun P' R' h => ⟨r.told, rfl, told_le r hrmem, fun z => (by rw [partsF_some hgr] at z; cases z), fun l hl => (by rw [partsF_some hgr] at hl; cases hl; exact h)⟩) (fun a6 => ?_) sc_law_fault.nd
    have hshape : ∃ k, k = (match r with | .cell .. => true | _ => false) := ⟨_, rfl⟩
    obtain ⟨kc, hkc⟩ := hshape
    refine st_ifJ (ι := Unit) (fun _ => [vl (a :: b :: rs.map RuleD.told), vl sg, .no, vl smallTx, .lst repTx a4 M, vl (2 + (m : Int)), .lst repTx a6 (nms13 r), .no, .no]) (fun _ => r.signIn sg = true) (k := kc) (et_lend 6 ?_) (fun h => ?_) (fun h => st_nil ⟨(), ?_, ?_⟩) (fun _ hsg => ?_)
    · cases r with
      | cell n c s =>
        obtain ⟨d, rfl⟩ : ∃ d, s = [d] := by
          have hs := signOk_of (Bool.and_eq_true .. ▸ hgr : signOk s = true ∧ _).1
          match s, hs with
          | [d], _ => exact ⟨d, rfl⟩
        have hd : d ∈ smallTx := by
          simp only [RuleD.good, Bool.and_eq_true] at hgr
          have h1 := hgr.1
          unfold signOk at h1
          simp only [Bool.and_eq_true, List.all_eq_true, decide_eq_true_eq] at h1
          exact h1.2 d (List.mem_cons_self ..)
        exact et_eq (et_and (k := true) (m := true) (et_eq (et_cmp o_eq (ev_len T.b_len (ev_var (x := ([n, [d]] : List Tx)) 6)) ev_int) rfl) fun _ => et_eq (et_cmp (o_inS (c := d)) (ev_ixL (xs := ([n, [d]] : List Tx)) (ev_var 6) ev_int (atI_nat (j := 1) rfl)) (ev_var 3)) (decide_eq_true hd)) hkc.symm
      | beside n c u v => exact et_eq (et_and (k := false) (m := false) (et_eq (et_cmp o_eq (ev_len T.b_len (ev_var (x := ([n, u, v] : List Tx)) 6)) ev_int) rfl) fun h => nomatch h) hkc.symm
      | above n c u v => exact et_eq (et_and (k := false) (m := false) (et_eq (et_cmp o_eq (ev_len T.b_len (ev_var (x := ([n, u, v] : List Tx)) 6)) ev_int) rfl) fun h => nomatch h) hkc.symm
      | turn n c u t =>
        have hu : isName u = true := by
          simp only [RuleD.good, Bool.and_eq_true] at hgr
          exact hgr.2.2
        exact et_eq (et_and (k := true) (m := false) (et_eq (et_cmp o_eq (ev_len T.b_len (ev_var (x := ([n, u] : List Tx)) 6)) ev_int) rfl) fun _ => et_cmp (o_inNm hu) (ev_ixL (xs := ([n, u] : List Tx)) (ev_var 6) ev_int (atI_nat (j := 1) rfl)) (ev_var 3)) hkc.symm
    · subst hkc
      cases r with
      | cell n c s =>
        obtain ⟨d, rfl⟩ : ∃ d, s = [d] := by
          have hs := signOk_of (Bool.and_eq_true .. ▸ hgr : signOk s = true ∧ _).1
          match s, hs with
          | [d], _ => exact ⟨d, rfl⟩
        refine st_if (k := !decide (d ∈ sg)) (et_lend 6 (et_cmp (o_notInS (c := d)) (ev_ixL (xs := ([n, [d]] : List Tx)) (ev_var 6) ev_int (atI_nat (j := 1) rfl)) (ev_var 1))) (fun h => ?_) (fun h => st_nil ?_)
        · have h' : (RuleD.cell n c [d]).signIn sg = false := by
            show decide (d ∈ sg) = false
            simpa using h
          rw [h', if_neg (by decide)] at hbad
          rw [← hbad] at hq
          exact st_retV (ev_some (ev_why (ev_str "sign") (es_cons (x := (m : Int)) (ev_eq (ev_bin o_sub (ev_var (x := 2 + (m : Int)) 5) ev_int) (by omega)) es_nil))) hq
        · have h' : (RuleD.cell n c [d]).signIn sg = true := by
            show decide (d ∈ sg) = true
            simpa using h
          refine st_dropG (eg_pop 6 (ad := a6) (xs := ([n, [d]] : List Tx)) (x := [d]) rfl) (fun r' Γ2 hG => ?_) (fun _ _ z => z.elim)
          obtain ⟨_, rfl⟩ := hG
          exact st_nil ⟨(), by walk_at "le", h'⟩
      | beside n c u v => cases h
      | above n c u v => cases h
      | turn n c u t => cases h
    · subst hkc
      cases r with
      | cell n c s => cases h
      | beside n c u v => walk_at "le"
      | above n c u v => walk_at "le"
      | turn n c u t => walk_at "le"
    · subst hkc
      cases r with
      | cell n c s => cases h
      | beside n c u v => rfl
      | above n c u v => rfl
      | turn n c u t => rfl
    rw [hsg, if_pos rfl] at hbad
    have hnl : (nms13 r).length ≤ 3 := by
      unfold nms13
      have := r.parts_len
      rw [List.length_cons]
      omega
    have hfl := List.length_filter_le (fun n => decide (n ∉ M)) (nms13 r)
    refine st_freeze 6 frozL ?_
    refine st_extend 4 (ad := a4) (xs := M) (ys := (nms13 r).filter fun n => decide (n ∉ M)) (en_lendO 4 (x := M) frozL (en_eq (en_lcIf (α := Tx) (β := Tx) (own := [("_law_name", 8)]) (f := fun p => p) (q := fun p => !decide (p ∈ M)) (src_list (xs := nms13 r) (ev_var 6)) (tg_name 8) (fun _ _ _ _ _ => pgn 8 sc_law_fault.nd)
      (fun p hp _ _ _ _ _ => et_cmp o_notInLS (ev_var 8) (ev_var 4)) (fun p hp _ _ _ _ _ _ => ev_var 8) sc_law_fault.nd (ok := bk_law_fault (by decide +kernel)) (hz := sl_small (by omega))) (by rw [List.map_id']; exact List.filter_congr fun p _ => by simp))) (st_nil ⟨M ++ (nms13 r).filter fun n => decide (n ∉ M), ?_, hbad, fun n => ?_, ?_⟩) (sl_small (by omega))
    · walk_at "le"
    · rw [metL_take hrm]
      unfold metR
      rw [addAll_mem, List.mem_append, List.mem_filter]
      constructor
      · rintro (h | ⟨h, _⟩)
        · exact .inl ((hM n).mp h)
        · exact .inr h
      · rintro (h | h)
        · exact .inl ((hM n).mpr h)
        · by_cases hn : n ∈ metL st0 (rs.take m)
          · exact .inl ((hM n).mpr hn)
          · exact .inr ⟨h, decide_eq_true fun z => hn ((hM n).mp z)⟩
    · rw [List.length_append]
      omega
  · obtain ⟨M, le, hbad, hM, hMl⟩ := hI
    have hn : (rng 2 (((a :: b :: rs.map RuleD.told).length : Int) - 2).toNat).length = rs.length := by rw [rng_len, lenR]; omega
    rw [hn, List.drop_length] at hbad
    rw [hn, List.take_length] at hM
    rw [hn] at hMl
    rw [← hbad] at hq
    have hq : Q (rv (if 8 < (metL st0 rs).length then some (⟨tx "names", [((metL st0 rs).length : Int)]⟩ : Why) else none)) := hq
    have hlen : (dedT [] M).length = (metL st0 rs).length := same_len (dedT_nodup List.nodup_nil) (metL_nd _ _) fun n => by
      rw [dedT_mem, ← hM]
      constructor
      · rintro (h | h)
        · exact (List.not_mem_nil h).elim
        · exact h
      · exact .inr
    refine st_le le ?_
    by_cases h8 : 8 < (metL st0 rs).length
    · rw [if_pos h8] at hq
      refine st_if (k := true) (et_lend 4 (et_eq (et_cmp o_gt (ev_lenSetL (xs := M) T.b_len T.b_set (ev_var 4) (by omega)) ev_int) (decide_eq_true (by rw [hlen]; omega)))) (fun _ => ?_) (fun h => nomatch h)
      exact st_retV (ev_some (ev_why (ev_str "names") (es_cons (x := ((metL st0 rs).length : Int)) (ev_lend 4 (ev_eq (ev_lenSetL (xs := M) T.b_len T.b_set (ev_var 4) (by omega)) (by rw [hlen]))) es_nil))) hq
    · rw [if_neg h8] at hq
      refine st_if (k := false) (et_lend 4 (et_eq (et_cmp o_gt (ev_lenSetL (xs := M) T.b_len T.b_set (ev_var 4) (by omega)) ev_int) (decide_eq_false (by rw [hlen]; omega)))) (fun h => nomatch h) (fun _ => st_nil ?_)
      exact st_retV (x := (none : Option Why)) ev_nonO hq
end
noncomputable def wholeS : Tw.Spec := fun A P _ => ∃ (n : Int), A = [vl n] ∧ P (rv true)
section
variable {P : Program} {w : World} {K : PySem.W.Frag} {mg : Str → Option Value} {base : Heap}
theorem ok_law_whole (T : Txt K mg) : Has P w K mg base 1 "_law_whole" ["_law_x"] wholeS := by
  refine Has.of T.f_law_whole sc_law_whole (fun A Q R ⟨n, e, _⟩ => by rw [e]; rfl) fun f cdv A outer s0 H E hr Γ Q R ⟨n, e, hq⟩ => ?_
  subst e
  exact st_retV (ev_and2 (ev_isi (α := Int) "int" true T.b_isinstance T.b_int (ev_var 0)) fun _ => ev_not (ev_isi (α := Int) "bool" false T.b_isinstance T.b_bool (ev_var 0))) hq
end
local macro_rules | `(tactic| walk_at "le") => `(tactic| repeat (first | exact le_nil | refine le_cons ?_ | refine le_no ?_))
theorem tok_lit {x : Tx} (h : (x.all fun c => decide (c < 1114112)) = true) : TxOk x := fun c hc => by
  have := List.all_eq_true.mp h c hc
  simpa using this
theorem whyG_ok {signs start : Tx} {rs : List RuleD} {y : Why} (h : whyG signs start rs = some y) : TxOk y.w := by
  have l1 : TxOk (tx "signs") := tok_lit (by decide)
  have l2 : TxOk (tx "start") := tok_lit (by decide)
  have l3 : TxOk (tx "rules") := tok_lit (by decide)
  have l4 : TxOk (tx "sign") := tok_lit (by decide)
  have l5 : TxOk (tx "names") := tok_lit (by decide)
  unfold whyG at h
  split at h
  · cases h; exact l1
  split at h
  · cases h; exact l2
  split at h
  · rename_i y' hw
    cases h
    unfold whyRules at hw
    split at hw
    · cases hw; exact l3
    · cases hb : badSign signs 0 rs with
      | none => rw [hb] at hw; cases hw
      | some k => rw [hb] at hw; cases hw; exact l4
  · split at h
    · cases h; exact l5
    · cases h
theorem atI_neg {A : Type} {xs : List A} {k : Int} (h0 : 0 ≤ k) (h1 : k < xs.length) : ∃ x, atI xs (-1 - k) = some x ∧ x ∈ xs := by
  obtain ⟨m, rfl⟩ : ∃ m : Nat, k = (m : Int) := ⟨k.toNat, by omega⟩
  have hlt : xs.length - 1 - m < xs.length := by omega
  refine ⟨xs[xs.length - 1 - m], ?_, List.getElem_mem hlt⟩
  unfold atI ixN
  rw [if_neg (by omega), if_pos (by omega)]
  show xs[(-1 - (m : Int) + (xs.length : Int)).toNat]? = _
  rw [show (-1 - (m : Int) + (xs.length : Int)).toNat = xs.length - 1 - m by omega, List.getElem?_eq_getElem hlt]
theorem bad_none {ok : Tx → Bool} : ∀ {xs : List Tx} {k : Nat}, badF ok k xs = none → (∀ i y, xs[i]? = some y → badAt ok (k + i) y = false) ∧ 2 ≤ k + xs.length
  | [], k, h => by
    unfold badF at h
    split at h
    · cases h
    · exact ⟨fun i y hy => by simp at hy, by rw [List.length_nil]; omega⟩
  | x :: xs, k, h => by
    unfold badF at h
    split at h
    · cases h
    · rename_i hb
      obtain ⟨h1, h2⟩ := bad_none h
      refine ⟨fun i y hy => ?_, by rw [List.length_cons]; omega⟩
      cases i with
      | zero => cases hy; rw [Nat.add_zero]; simpa using hb
      | succ i =>
        have := h1 i y hy
        rw [show k + 1 + i = k + (i + 1) by omega] at this
        exact this
theorem rules_of {ok : Tx → Bool} (hok : WrOk ok) : ∀ {xs : List Tx}, (∀ y ∈ xs, ok y = true) → ∃ rs : List RuleD, (∀ r ∈ rs, r.good = true) ∧ xs = rs.map RuleD.told
  | [], _ => ⟨[], (fun _ h => nomatch h), rfl⟩
  | x :: xs, h => by
    obtain ⟨r, hg, ht⟩ := (hok x).mp (h x (List.mem_cons_self ..))
    obtain ⟨rs, h1, h2⟩ := rules_of hok fun y hy => h y (List.mem_cons_of_mem _ hy)
    refine ⟨r :: rs, fun q hq => ?_, by rw [List.map_cons, ht, ← h2]⟩
    rcases List.mem_cons.mp hq with rfl | hq
    · exact hg
    · exact h1 q hq
theorem well_of {ok : Tx → Bool} (hok : WrOk ok) {rows : List Tx} (h : badF ok 0 rows = none) : ∃ (a b : Tx) (rs : List RuleD), (∀ r ∈ rs, r.good = true) ∧ rows = a :: b :: rs.map RuleD.told ∧ a.take 6 = sgH ∧ b.take 6 = stH := by
  obtain ⟨h1, h2⟩ := bad_none h
  match rows, h1, h2 with
  | a :: b :: xs, h1, _ =>
    obtain ⟨rs, g1, g2⟩ := rules_of hok (xs := xs) fun y hy => by
      obtain ⟨i, hi⟩ := List.getElem?_of_mem hy
      have := h1 (i + 2) y hi
      rw [show 0 + (i + 2) = i + 2 by omega] at this
      have this : (!ok y) = false := this
      simpa using this
    refine ⟨a, b, rs, g1, by rw [g2], ?_, ?_⟩
    · have := h1 0 a rfl
      have this : (!decide (a.take 6 = sgH)) = false := this
      simpa using this
    · have := h1 1 b rfl
      have this : (!decide (b.take 6 = stH)) = false := this
      simpa using this
  | [], _, h2 => exact absurd h2 (by decide)
  | [_], _, h2 => exact absurd h2 (by simp)
theorem well_none {ok : Tx → Bool} (hok : WrOk ok) {a b : Tx} {rs : List RuleD} (hg : ∀ r ∈ rs, r.good = true) (ha : a.take 6 = sgH) (hb : b.take 6 = stH) : badF ok 0 (a :: b :: rs.map RuleD.told) = none := by
  rw [bad_end fun i y hy => ?_, if_neg (by simp)]
  rw [Nat.zero_add]
  match i with
  | 0 => cases hy; show (!decide (a.take 6 = sgH)) = false; rw [decide_eq_true ha]; rfl
  | 1 => cases hy; show (!decide (b.take 6 = stH)) = false; rw [decide_eq_true hb]; rfl
  | i + 2 =>
    have hy : (rs.map RuleD.told)[i]? = some y := hy
    rw [List.getElem?_map] at hy
    obtain ⟨r, hr, rfl⟩ := Option.map_eq_some_iff.mp hy
    show (!ok r.told) = false
    rw [(hok _).mpr ⟨r, hg r (List.mem_of_getElem? hr), rfl⟩]; rfl
structure Rd13 (text : Tx) (rows : List Tx) : Prop where
  eq : rows = splitC 10 [] text
  tl : text.length ≤ 900000
  rl : rows.length ≤ 100
  xl : ∀ x ∈ rows, x.length ≤ 900
noncomputable def read13S : Tw.Spec := fun A P _ => ∃ (text : Tx) (rows : List Tx), A = [vl text] ∧ Rd13 text rows ∧ (∀ k, badF ok13 0 rows = some k → P (rv ((tx "row", (k : Int)) : Tx × Int))) ∧
  (∀ (a b : Tx) (rs : List RuleD), (∀ r ∈ rs, r.good = true) → rows = a :: b :: rs.map RuleD.told → a.take 6 = sgH → b.take 6 = stH → (whyG (a.drop 6) (b.drop 6) rs = none → P (rv ((tx "read", mkG (a.drop 6) (b.drop 6) rs) : Tx × GramD))) ∧ (∀ y, whyG (a.drop 6) (b.drop 6) rs = some y → P (rv ((tx "why", y) : Tx × Why))))
theorem told_inj_map {rs rs' : List RuleD} (h : ∀ r ∈ rs, r.good = true) (h' : ∀ r ∈ rs', r.good = true) (e : rs.map RuleD.told = rs'.map RuleD.told) : rs = rs' := by
  refine List.ext_getElem? fun i => ?_
  have := congrArg (fun l : List Tx => l[i]?) e
  simp only [List.getElem?_map] at this
  cases h1 : rs[i]? with
  | none =>
    cases h2 : rs'[i]? with
    | none => rfl
    | some r' => rw [h1, h2] at this; cases this
  | some r =>
    cases h2 : rs'[i]? with
    | none => rw [h1, h2] at this; cases this
    | some r' =>
      rw [h1, h2] at this
      rw [told_inj (h r (List.mem_of_getElem? h1)) (h' r' (List.mem_of_getElem? h2)) (Option.some.inj this)]
section
variable {P : Program} {w : World} {K : PySem.W.Frag} {mg : Str → Option Value} {base : Heap}
theorem ok_law_read (T : Txt K mg) : Has P w K mg base 13 "_law_read" ["_law_text"] read13S := by
  refine Has.of (k := 12) T.f_law_read sc_law_read (fun A Q R ⟨text, rows, e, _⟩ => by rw [e]; rfl) fun f cdv A outer s0 H E hr Γ Q R ⟨text, rows, e, hR, h1, h2⟩ => ?_
  subst e
  have hrl : rows.length ≤ 200 := by have := hR.rl; omega
  refine st_set 1 (x := (none : Option Int)) (ev_nonO (i := repInt)) ?_ sc_law_read.nd
  refine st_set 2 ev_non ?_ sc_law_read.nd
  cases hb : badF ok13 0 rows with
  | some k =>
    refine st_try 3 sc_law_read.nd T.x_QuiltError fun pn xe hpass => ?_
    refine st_setR 2 (R := fun y => y = NoTextX k) (exx_call (P := fun _ => False) (ok_read_grammar T wr13) (hr.mono (by decide)) (ea_cons (x := text) (ev_var 0) ea_nil) fun P' R' _ h => ⟨text, rows, rfl, hR.eq, hR.tl, hrl, hR.xl, fun k' hk' => (by rw [hb] at hk'; cases hk'; exact h _ rfl), fun a b rs g1 g2 g3 g4 => (by rw [g2, well_none wr13 g1 g3 g4] at hb; cases hb)⟩) (fun y e => ?_) sc_law_read.nd
    subst e
    refine .inl ⟨T.s_NoText_QuiltError, fun a pn => ?_⟩
    refine st_set 1 (x := (ErrW.mk "NoText" "row" (k : Int))) (ev_var 3) (st_nil ?_) sc_law_read.nd
    refine st_if (k := false) (et_cmp (o_isO (x := some (ErrW.mk "NoText" "row" (k : Int)))) (ev_some (ev_var 1)) ev_non) (fun h => nomatch h) (fun _ => st_nil ?_)
    refine st_if (k := false) (et_eq (et_or (k := false) (m := false) (et_val (ev_isiE (α := ErrW Int) T.b_isinstance T.x_NoText T.x_NoRule T.s_NoText_NoRule (ev_var 1))) fun _ => et_eq (et_not (et_val (ev_isiEB (α := ErrW Int) "ValueError" T.b_isinstance T.b_ValueError T.x_NoText T.t_NoText_ValueError (ev_var 1)))) rfl) rfl) (fun h => nomatch h) (fun _ => st_nil ?_)
    have ew : ∀ {Γ : List Tw.Slot} {p1 p2}, Γ[1]? = some (vl (ErrW.mk "NoText" "row" (k : Int))) → EV (cxOf (CXm P w K) P w K mg base N_law_read "_law_read" (defScope s_law_read) f cdv A outer s0 H E).nox Γ (.Attribute (.Name "_law_refusal" p1) "row" p2) (k : Int) := fun {Γ p1 p2} hg =>
      ev_errW (α := Int) (x := ErrW.mk "NoText" "row" (k : Int)) T.x_NoText (Dx.fld T.i_NoText) (ev_var 1 (hg := hg))
    refine st_if (k := true) (et_eq (et_and3 (k := true) (m := true) (n := true) (et_val (ev_isiE (α := ErrW Int) T.b_isinstance T.x_NoText T.x_NoText T.s_NoText_NoText (ev_var 1))) (fun _ => et_eq (et_not (et_val (ev_isiE (α := ErrW Int) T.b_isinstance T.x_NoText T.x_NoGrammar T.s_NoText_NoGrammar (ev_var 1)))) rfl) (fun _ _ => et_val (ev_call (x := true) (ok_law_whole T) (hr.mono (by decide)) (ea_cons (x := (k : Int)) (ew rfl) ea_nil) fun P' R' h => ⟨_, rfl, h⟩))) rfl) (fun _ => ?_) (fun h => nomatch h)
    exact st_retV (ev_pair (ev_str "row") (ew rfl)) (h1 k hb)
  | none =>
    obtain ⟨a, b, rs, g1, g2, g3, g4⟩ := well_of wr13 hb
    obtain ⟨q1, q2⟩ := h2 a b rs g1 g2 g3 g4
    have same : ∀ (a' b' : Tx) (rs' : List RuleD), (∀ r ∈ rs', r.good = true) → rows = a' :: b' :: rs'.map RuleD.told → a' = a ∧ b' = b ∧ rs' = rs := fun a' b' rs' e1 e2 => by
      rw [g2] at e2
      injection e2 with e3 e4
      injection e4 with e4 e5
      exact ⟨e3.symm, e4.symm, (told_inj_map g1 e1 e5).symm⟩
    cases hw : whyG (a.drop 6) (b.drop 6) rs with
    | none =>
      refine st_try 3 sc_law_read.nd T.x_QuiltError fun pn xe hpass => ?_
      refine st_set 2 (x := mkG (a.drop 6) (b.drop 6) rs) (ev_call (x := mkG (a.drop 6) (b.drop 6) rs) (ok_read_grammar T wr13) (hr.mono (by decide)) (ea_cons (x := text) (ev_var 0) ea_nil) fun P' R' h => ⟨text, rows, rfl, hR.eq, hR.tl, hrl, hR.xl, fun k' hk' => (by rw [hb] at hk'; cases hk'), fun a' b' rs' e1 e2 e3 e4 => (by
        obtain ⟨rfl, rfl, rfl⟩ := same a' b' rs' e1 e2
        exact ⟨fun _ => h, fun y hy => by rw [hw] at hy; cases hy⟩)⟩) (st_nil ?_) sc_law_read.nd
      refine st_if (k := true) (et_cmp (o_isO (x := (none : Option Int))) (ev_var 1) ev_non) (fun _ => ?_) (fun h => nomatch h)
      exact st_retV (ev_pair (ev_str "read") (ev_var (x := mkG (a.drop 6) (b.drop 6) rs) 2)) (q1 hw)
    | some y =>
      refine st_try 3 sc_law_read.nd T.x_QuiltError fun pn xe hpass => ?_
      refine st_setR 2 (R := fun z => z = NoGram y) (exx_call (P := fun _ => False) (ok_read_grammar T wr13) (hr.mono (by decide)) (ea_cons (x := text) (ev_var 0) ea_nil) fun P' R' _ h => ⟨text, rows, rfl, hR.eq, hR.tl, hrl, hR.xl, fun k' hk' => (by rw [hb] at hk'; cases hk'), fun a' b' rs' e1 e2 e3 e4 => (by
        obtain ⟨rfl, rfl, rfl⟩ := same a' b' rs' e1 e2
        exact ⟨fun z => (by rw [hw] at z; cases z), fun y' hy => by rw [hw] at hy; cases hy; exact h _ rfl⟩)⟩) (fun z e => ?_) sc_law_read.nd
      subst e
      refine .inl ⟨T.s_NoGrammar_QuiltError, fun a pn => ?_⟩
      refine st_set 1 (x := (ErrW.mk "NoGrammar" "why" y)) (ev_var 3) (st_nil ?_) sc_law_read.nd
      refine st_if (k := false) (et_cmp (o_isO (x := some (ErrW.mk "NoGrammar" "why" y))) (ev_some (ev_var 1)) ev_non) (fun h => nomatch h) (fun _ => st_nil ?_)
      refine st_if (k := false) (et_eq (et_or (k := false) (m := false) (et_val (ev_isiE (α := ErrW Why) T.b_isinstance T.x_NoGrammar T.x_NoRule T.s_NoGrammar_NoRule (ev_var 1))) fun _ => et_eq (et_not (et_val (ev_isiEB (α := ErrW Why) "ValueError" T.b_isinstance T.b_ValueError T.x_NoGrammar T.t_NoGrammar_ValueError (ev_var 1)))) rfl) rfl) (fun h => nomatch h) (fun _ => st_nil ?_)
      have ew : ∀ {Γ : List Tw.Slot} {p1 p2}, Γ[1]? = some (vl (ErrW.mk "NoGrammar" "why" y)) → EV (cxOf (CXm P w K) P w K mg base N_law_read "_law_read" (defScope s_law_read) f cdv A outer s0 H E).nox Γ (.Attribute (.Name "_law_refusal" p1) "why" p2) y := fun {Γ p1 p2} hg =>
        ev_errW (α := Why) (x := ErrW.mk "NoGrammar" "why" y) T.x_NoGrammar (Dx.fld T.i_NoGrammar) (ev_var 1 (hg := hg))
      refine st_if (k := false) (et_eq (et_and3 (k := false) (m := false) (n := false) (et_val (ev_isiE (α := ErrW Why) T.b_isinstance T.x_NoGrammar T.x_NoText T.s_NoGrammar_NoText (ev_var 1))) (fun h => nomatch h) (fun h => nomatch h)) rfl) (fun h => nomatch h) (fun _ => st_nil ?_)
      refine st_if (k := true) (et_eq (et_and (k := true) (m := true) (et_val (ev_isiE (α := ErrW Why) T.b_isinstance T.x_NoGrammar T.x_NoGrammar T.s_NoGrammar_NoGrammar (ev_var 1))) fun _ => et_eq (et_not (et_val (ev_isiE (α := ErrW Why) T.b_isinstance T.x_NoGrammar T.x_NoText T.s_NoGrammar_NoText (ev_var 1)))) rfl) rfl) (fun _ => ?_) (fun h => nomatch h)
      exact st_retV (ev_pair (ev_str "why") (ew rfl)) (q2 y hw)
end
local macro_rules | `(tactic| walk_at "le") => `(tactic| repeat (first | exact le_nil | refine le_cons ?_ | refine le_no ?_))
noncomputable def nmAt (names : List Tx) (z : Int) : Tx := names.getD (z % (names.length : Int)).toNat []
noncomputable def begF (c : Int) (names : List Tx) : Tx := nmAt names c ++ [32] ++ strI (1 + c / 5 % 9) ++ [58, 32]
noncomputable def rowF (c : Int) (names : List Tx) (signs : Tx) : Tx :=
  if c / (names.length : Int) % 4 = 0 then begF c names ++ [signs.getD (c / (names.length : Int) / 36 % (signs.length : Int)).toNat 0]
  else if c / (names.length : Int) % 4 = 1 then begF c names ++ nmAt names (c / (names.length : Int) / 4) ++ tx " | " ++ nmAt names (c / (names.length : Int) / 44)
  else if c / (names.length : Int) % 4 = 2 then begF c names ++ nmAt names (c / (names.length : Int) / 4) ++ tx " / " ++ nmAt names (c / (names.length : Int) / 44)
  else begF c names ++ nmAt names (c / (names.length : Int) / 4) ++ tx " turned " ++ strI (c / (names.length : Int) / 84 % 8)
noncomputable def Flat1 (b : Nat) (x : Tx) : Prop := x.length ≤ b ∧ (10 : Nat) ∉ x
theorem Flat1.app {a b : Nat} {x y : Tx} (h : Flat1 a x) (h2 : Flat1 b y) : Flat1 (a + b) (x ++ y) := ⟨by rw [List.length_append]; have := h.1; have := h2.1; omega, fun z => (List.mem_append.mp z).elim h.2 h2.2⟩
theorem Flat1.mono {a b : Nat} {x : Tx} (h : Flat1 a x) (hab : a ≤ b) : Flat1 b x := ⟨Nat.le_trans h.1 hab, h.2⟩
theorem flat_dig {n : Int} (h : 0 ≤ n ∧ n ≤ 9) : Flat1 1 (strI n) := by
  rw [strI_of h]
  exact ⟨Nat.le_refl _, by simp; omega⟩
theorem nmAt_mem {names : List Tx} (h : 1 ≤ names.length) (z : Int) : atI names (z % (names.length : Int)) = some (nmAt names z) ∧ nmAt names z ∈ names := by
  have h1 := Int.emod_nonneg z (by omega : (names.length : Int) ≠ 0)
  have h2 := Int.emod_lt_of_pos z (by omega : (0 : Int) < names.length)
  have hlt : (z % (names.length : Int)).toNat < names.length := by omega
  have e : nmAt names z = names[(z % (names.length : Int)).toNat] := by
    unfold nmAt
    rw [List.getD_eq_getElem?_getD, List.getElem?_eq_getElem hlt]; rfl
  rw [e]
  refine ⟨?_, List.getElem_mem hlt⟩
  have := atI_nat (List.getElem?_eq_getElem hlt)
  rwa [show (((z % (names.length : Int)).toNat : Nat) : Int) = z % (names.length : Int) by omega] at this
theorem sgAt_mem {signs : Tx} (h : 1 ≤ signs.length) (z : Int) : atI signs (z % (signs.length : Int)) = some (signs.getD (z % (signs.length : Int)).toNat 0) ∧ signs.getD (z % (signs.length : Int)).toNat 0 ∈ signs := by
  have h1 := Int.emod_nonneg z (by omega : (signs.length : Int) ≠ 0)
  have h2 := Int.emod_lt_of_pos z (by omega : (0 : Int) < signs.length)
  have hlt : (z % (signs.length : Int)).toNat < signs.length := by omega
  have e : signs.getD (z % (signs.length : Int)).toNat 0 = signs[(z % (signs.length : Int)).toNat] := by
    rw [List.getD_eq_getElem?_getD, List.getElem?_eq_getElem hlt]; rfl
  rw [e]
  refine ⟨?_, List.getElem_mem hlt⟩
  have := atI_nat (List.getElem?_eq_getElem hlt)
  rwa [show (((z % (signs.length : Int)).toNat : Nat) : Int) = z % (signs.length : Int) by omega] at this
theorem digs (c : Int) : 0 ≤ 1 + c / 5 % 9 ∧ 1 + c / 5 % 9 ≤ 9 := by
  have h1 := Int.emod_nonneg (c / 5) (by decide : (9 : Int) ≠ 0)
  have h2 := Int.emod_lt_of_pos (c / 5) (by decide : (0 : Int) < 9)
  omega
theorem digs8 (c : Int) : 0 ≤ c % 8 ∧ c % 8 ≤ 9 := by
  have h1 := Int.emod_nonneg c (by decide : (8 : Int) ≠ 0)
  have h2 := Int.emod_lt_of_pos c (by decide : (0 : Int) < 8)
  omega
theorem begF_flat {c : Int} {names : List Tx} (h : 1 ≤ names.length) (hn : ∀ n ∈ names, Flat1 4 n) : Flat1 8 (begF c names) :=
  (((hn _ (nmAt_mem h c).2).app (b := 1) (y := [32]) ⟨Nat.le_refl _, by decide⟩).app (flat_dig (digs c))).app (b := 2) (y := [58, 32]) ⟨Nat.le_refl _, by decide⟩
theorem rowF_flat {c : Int} {names : List Tx} {signs : Tx} (h : 1 ≤ names.length) (hn : ∀ n ∈ names, Flat1 4 n) (hs : 1 ≤ signs.length) (hs10 : (10 : Nat) ∉ signs) : Flat1 40 (rowF c names signs) := by
  have hb := begF_flat (c := c) h hn
  have k1 : Flat1 8 (tx " | ") := ⟨by decide, by decide⟩
  have k2 : Flat1 8 (tx " / ") := ⟨by decide, by decide⟩
  have k3 : Flat1 8 (tx " turned ") := ⟨by decide, by decide⟩
  have nn := fun z => hn _ (nmAt_mem h z).2
  unfold rowF
  split
  · exact (hb.app (b := 1) ⟨Nat.le_refl _, fun z => by
      rw [List.mem_singleton] at z
      exact hs10 (z ▸ (sgAt_mem hs _).2)⟩).mono (by decide)
  split
  · exact (((hb.app (nn _)).app k1).app (nn _)).mono (by decide)
  split
  · exact (((hb.app (nn _)).app k2).app (nn _)).mono (by decide)
  · exact (((hb.app (nn _)).app k3).app (flat_dig (digs8 _))).mono (by decide)
theorem small_log13 : ∀ n : Nat, n < 64 → n.log2 < 64 := by decide
noncomputable def row13S : Tw.Spec := fun A P _ => ∃ (c : Int) (names : List Tx) (signs : Tx), A = [vl c, vl names, vl signs] ∧ 1 ≤ names.length ∧ names.length ≤ 60 ∧ (∀ n ∈ names, Flat1 4 n) ∧ 1 ≤ signs.length ∧ signs.length ≤ 4 ∧ P (rv (rowF c names signs))
noncomputable def spoilt13S : Tw.Spec := fun A P _ => ∃ (rows : List Tx) (c : Int), A = [vl rows, vl c] ∧ 1 ≤ rows.length ∧ rows.length ≤ 30 ∧ (∀ x ∈ rows, Flat1 40 x) ∧ ∀ rows' : List Tx, rows'.length ≤ 90 → (∀ x ∈ rows', Flat1 41 x) → P (rv rows')
theorem split_join {c : Nat} : ∀ (xs : List Tx) (x : Tx), (∀ y ∈ x :: xs, c ∉ y) → splitC c [] (joinL [c] (x :: xs)) = x :: xs
  | [], x, h => by
    have e : joinL [c] [x] = x := rfl
    rw [e, splitC_last x [] (h x (List.mem_cons_self ..))]
    rfl
  | y :: xs, x, h => by
    have e : joinL [c] (x :: y :: xs) = x ++ c :: joinL [c] (y :: xs) := by
      show x ++ ([c] ++ joinL [c] (y :: xs)) = _
      rfl
    rw [e, splitC_app x _ [] (h x (List.mem_cons_self ..)), split_join xs y fun z hz => h z (List.mem_cons_of_mem _ hz)]
    rfl
section
variable {P : Program} {w : World} {K : PySem.W.Frag} {mg : Str → Option Value} {base : Heap}
theorem ok_law_row (T : Txt K mg) : Has P w K mg base 1 "_law_row" ["_law_cell_here", "_law_names", "_law_signs_here"] row13S := by
  refine Has.of (k := 0) T.f_law_row sc_law_row (fun A Q R ⟨c, names, signs, e, _⟩ => by rw [e]; rfl) fun f cdv A outer s0 H E hr Γ Q R ⟨c, names, signs, e, n1, n60, hn, s1, s4, hq⟩ => ?_
  subst e
  have nn := fun z => nmAt_mem n1 z
  have nl := fun z => (hn _ (nn z).2).1
  have hb := begF_flat (c := c) n1 hn
  have hb8 := hb.1
  have dg : (1 + c / 5 % 9).natAbs.log2 < 1920 := Nat.lt_trans (small_log13 _ (by have := digs c; omega)) (by decide)
  have l1 : (strI (1 + c / 5 % 9)).length ≤ 1 := (flat_dig (digs c)).1
  have l0 := nl c
  refine st_set 3 (x := begF c names) (ev_bin (o_addS (sl_small (by simp only [List.length_append, List.length_cons, List.length_nil]; show _ + 2 ≤ 1000; omega))) (ev_bin (o_addS (sl_small (by simp only [List.length_append, List.length_cons, List.length_nil]; omega))) (ev_bin (o_addS (sl_small (by show _ + 1 ≤ 1000; omega))) (ev_ixL (xs := names) (ev_var 1) (ev_bin (o_mod (y := (names.length : Int)) (by omega)) (ev_var 0) (ev_len T.b_len (ev_var (x := names) 1))) (nn c).1) (ev_str " ")) (ev_strI T.b_str (ev_bin o_add ev_int (ev_bin (o_mod (by decide)) (ev_bin (o_div divK) (ev_var 0) ev_int) ev_int)) dg)) (ev_str ": ")) ?_ sc_law_row.nd
  refine st_set 0 (x := c / (names.length : Int)) (ev_bin (o_div (y := (names.length : Int)) ⟨by omega, Nat.lt_trans (small_log13 _ (by omega)) (by decide)⟩) (ev_var 0) (ev_len T.b_len (ev_var (x := names) 1))) ?_ sc_law_row.nd
  have hF : rowF c names signs = if c / (names.length : Int) % 4 = 0 then begF c names ++ [signs.getD (c / (names.length : Int) / 36 % (signs.length : Int)).toNat 0]
    else if c / (names.length : Int) % 4 = 1 then begF c names ++ nmAt names (c / (names.length : Int) / 4) ++ tx " | " ++ nmAt names (c / (names.length : Int) / 44)
    else if c / (names.length : Int) % 4 = 2 then begF c names ++ nmAt names (c / (names.length : Int) / 4) ++ tx " / " ++ nmAt names (c / (names.length : Int) / 44)
    else begF c names ++ nmAt names (c / (names.length : Int) / 4) ++ tx " turned " ++ strI (c / (names.length : Int) / 84 % 8) := rfl
  rw [hF] at hq
  generalize c / (names.length : Int) = d at hq
  generalize begF c names = bg at hq hb8
  refine st_set 4 (x := nmAt names (d / 4)) (ev_ixL (xs := names) (ev_var 1) (ev_bin (o_mod (y := (names.length : Int)) (by omega)) (ev_bin (o_div divK) (ev_var 0) ev_int) (ev_len T.b_len (ev_var (x := names) 1))) (nn (d / 4)).1) ?_ sc_law_row.nd
  have la := nl (d / 4)
  have lb := nl (d / 44)
  have t1 : (tx " | ").length = 3 := rfl
  have t2 : (tx " / ").length = 3 := rfl
  have t3 : (tx " turned ").length = 8 := rfl
  by_cases h0 : d % 4 = 0
  · rw [if_pos h0] at hq
    refine st_if (k := true) (et_eq (et_cmp o_eq (ev_bin (o_mod (by decide)) (ev_var 0) ev_int) ev_int) (decide_eq_true h0)) (fun _ => ?_) (fun h => nomatch h)
    exact st_retV (ev_bin (o_addS (sl_small (by show _ + 1 ≤ 1000; omega))) (ev_var 3) (ev_ixS (x := signs) (ev_var 2) (ev_bin (o_mod (y := (signs.length : Int)) (by omega)) (ev_bin (o_div divK) (ev_var 0) ev_int) (ev_lenS T.b_len (ev_var 2) (sl_small (by omega)))) (sgAt_mem s1 _).1 (sl_small (by omega)))) hq
  rw [if_neg h0] at hq
  refine st_if (k := false) (et_eq (et_cmp o_eq (ev_bin (o_mod (by decide)) (ev_var 0) ev_int) ev_int) (decide_eq_false h0)) (fun h => nomatch h) (fun _ => st_nil ?_)
  by_cases h1 : d % 4 = 1
  · rw [if_pos h1] at hq
    refine st_if (k := true) (et_eq (et_cmp o_eq (ev_bin (o_mod (by decide)) (ev_var 0) ev_int) ev_int) (decide_eq_true h1)) (fun _ => ?_) (fun h => nomatch h)
    exact st_retV (ev_bin (o_addS (sl_small (by simp only [List.length_append]; omega))) (ev_bin (o_addS (sl_small (by simp only [List.length_append]; omega))) (ev_bin (o_addS (sl_small (by omega))) (ev_var 3) (ev_var 4)) (ev_str " | ")) (ev_ixL (xs := names) (ev_var 1) (ev_bin (o_mod (y := (names.length : Int)) (by omega)) (ev_bin (o_div divK) (ev_var 0) ev_int) (ev_len T.b_len (ev_var (x := names) 1))) (nn (d / 44)).1)) hq
  rw [if_neg h1] at hq
  refine st_if (k := false) (et_eq (et_cmp o_eq (ev_bin (o_mod (by decide)) (ev_var 0) ev_int) ev_int) (decide_eq_false h1)) (fun h => nomatch h) (fun _ => st_nil ?_)
  by_cases h2 : d % 4 = 2
  · rw [if_pos h2] at hq
    refine st_if (k := true) (et_eq (et_cmp o_eq (ev_bin (o_mod (by decide)) (ev_var 0) ev_int) ev_int) (decide_eq_true h2)) (fun _ => ?_) (fun h => nomatch h)
    exact st_retV (ev_bin (o_addS (sl_small (by simp only [List.length_append]; omega))) (ev_bin (o_addS (sl_small (by simp only [List.length_append]; omega))) (ev_bin (o_addS (sl_small (by omega))) (ev_var 3) (ev_var 4)) (ev_str " / ")) (ev_ixL (xs := names) (ev_var 1) (ev_bin (o_mod (y := (names.length : Int)) (by omega)) (ev_bin (o_div divK) (ev_var 0) ev_int) (ev_len T.b_len (ev_var (x := names) 1))) (nn (d / 44)).1)) hq
  rw [if_neg h2] at hq
  refine st_if (k := false) (et_eq (et_cmp o_eq (ev_bin (o_mod (by decide)) (ev_var 0) ev_int) ev_int) (decide_eq_false h2)) (fun h => nomatch h) (fun _ => st_nil ?_)
  have l8 : (strI (d / 84 % 8)).length ≤ 1 := (flat_dig (digs8 _)).1
  exact st_retV (ev_bin (o_addS (sl_small (by simp only [List.length_append]; omega))) (ev_bin (o_addS (sl_small (by simp only [List.length_append]; omega))) (ev_bin (o_addS (sl_small (by omega))) (ev_var 3) (ev_var 4)) (ev_str " turned ")) (ev_strI T.b_str (ev_bin (o_mod (by decide)) (ev_bin (o_div divK) (ev_var 0) ev_int) ev_int) (Nat.lt_trans (small_log13 _ (by have := digs8 (d / 84); omega)) (by decide)))) hq
theorem ok_law_spoilt (T : Txt K mg) : Has P w K mg base 1 "_law_spoilt" ["_law_rows", "_law_cell_here"] spoilt13S := by
  refine Has.of (k := 0) T.f_law_spoilt sc_law_spoilt (fun A Q R ⟨rows, c, e, _⟩ => by rw [e]; rfl) fun f cdv A outer s0 H E hr Γ Q R ⟨rows, c, e, r1, r60, hx, hq⟩ => ?_
  subst e
  have h1 := Int.emod_nonneg (c / 12) (by omega : (rows.length : Int) ≠ 0)
  have h2 := Int.emod_lt_of_pos (c / 12) (by omega : (0 : Int) < rows.length)
  refine st_set 2 (x := c % 12) (ev_bin (o_mod (by decide)) (ev_var 1) ev_int) ?_ sc_law_spoilt.nd
  obtain ⟨x, hxa, hxm⟩ := list_atI (xs := rows) h1 h2
  refine st_set 3 (x := c / 12 % (rows.length : Int)) (ev_bin (o_mod (y := (rows.length : Int)) (by omega)) (ev_bin (o_div divK) (ev_var 1) ev_int) (ev_len T.b_len (ev_var (x := rows) 0))) ?_ sc_law_spoilt.nd
  refine st_set 4 (x := x) (ev_ixL (xs := rows) (ev_var 0) (ev_var (x := c / 12 % (rows.length : Int)) 3) hxa) ?_ sc_law_spoilt.nd
  generalize c / 12 % (rows.length : Int) = at0
  have hx41 : ∀ y ∈ rows, Flat1 41 y := fun y hy => (hx y hy).mono (by decide)
  have c1 : ∀ o1 o2, (cutL rows o1 o2).length ≤ 30 := fun o1 o2 => Nat.le_trans cutL_len r60
  have c2 : ∀ o1 o2, ∀ y ∈ cutL rows o1 o2, Flat1 41 y := fun o1 o2 y hy => hx41 y (cutL_mem hy)
  have hx0 := hx x hxm
  have app : ∀ {u v : List Tx}, (∀ y ∈ u, Flat1 41 y) → (∀ y ∈ v, Flat1 41 y) → ∀ y ∈ u ++ v, Flat1 41 y := fun hu hv y hy => (List.mem_append.mp hy).elim (hu y) (hv y)
  have one : ∀ {z : Tx}, Flat1 41 z → ∀ y ∈ [z], Flat1 41 y := fun hz y hy => by rw [List.mem_singleton.mp hy]; exact hz
  have la := c1 none (some at0)
  have lb := c1 (some at0) none
  have lc := c1 (some (at0 + 1)) none
  have mid : ∀ {z : Tx} {v : List Tx}, Flat1 41 z → v.length ≤ 30 → (∀ y ∈ v, Flat1 41 y) → Q (rv ((cutL rows none (some at0) ++ [z]) ++ v)) := fun {z v} hz hl hv => hq _ (by simp only [List.length_append, List.length_cons, List.length_nil]; omega) (app (app (c2 _ _) (one hz)) hv)
  refine st_if (k := decide (c % 12 = 1)) (et_cmp o_eq (ev_var (x := c % 12) 2) ev_int) (fun _ => ?_) (fun _ => st_nil ?_)
  · exact st_retV (ev_of_en (en_addL (ev_of_en (en_sliceL (xs := rows) (o1 := none) (o2 := some at0) (ev_var 0) trivial (ev_var 3))) (ev_of_en (en_sliceL (xs := rows) (o1 := some (at0 + 1)) (o2 := none) (ev_var 0) (ev_bin o_add (ev_var 3) ev_int) trivial)) (sl_small (by omega)))) (hq _ (by rw [List.length_append]; omega) (app (c2 _ _) (c2 _ _)))
  refine st_if (k := decide (c % 12 = 2)) (et_cmp o_eq (ev_var (x := c % 12) 2) ev_int) (fun _ => ?_) (fun _ => st_nil ?_)
  · exact st_retV (ev_of_en (en_addL (ev_of_en (en_addL (ev_of_en (en_sliceL (xs := rows) (o1 := none) (o2 := some at0) (ev_var 0) trivial (ev_var 3))) (ev_of_en (en_lst (es_cons (x := x) (ev_var 4) es_nil))) (sl_small (by show _ + 1 ≤ 1000; omega)))) (ev_of_en (en_sliceL (xs := rows) (o1 := some at0) (o2 := none) (ev_var 0) (ev_var 3) trivial)) (sl_small (by simp only [List.length_append, List.length_cons, List.length_nil]; omega)))) (mid (hx0.mono (by decide)) lb (c2 _ _))
  refine st_if (k := decide (c % 12 = 3)) (et_cmp o_eq (ev_var (x := c % 12) 2) ev_int) (fun _ => ?_) (fun _ => st_nil ?_)
  · exact st_retV (ev_of_en (en_addL (ev_of_en (en_addL (ev_of_en (en_sliceL (xs := rows) (o1 := none) (o2 := some at0) (ev_var 0) trivial (ev_var 3))) (ev_of_en (en_lst (es_cons (x := ([] : Tx)) (ev_str "") es_nil))) (sl_small (by show _ + 1 ≤ 1000; omega)))) (ev_of_en (en_sliceL (xs := rows) (o1 := some (at0 + 1)) (o2 := none) (ev_var 0) (ev_bin o_add (ev_var 3) ev_int) trivial)) (sl_small (by simp only [List.length_append, List.length_cons, List.length_nil]; omega)))) (mid ⟨Nat.zero_le _, (fun z => nomatch z)⟩ lc (c2 _ _))
  refine st_if (k := decide (c % 12 = 4)) (et_cmp o_eq (ev_var (x := c % 12) 2) ev_int) (fun _ => ?_) (fun _ => st_nil ?_)
  · exact st_retV (ev_of_en (en_addL (ev_of_en (en_addL (ev_of_en (en_sliceL (xs := rows) (o1 := none) (o2 := some at0) (ev_var 0) trivial (ev_var 3))) (ev_of_en (en_lst (es_cons (x := cutL x (some 1) none) (ev_sliceS (x := x) (o1 := some 1) (o2 := none) (ev_var 4) ev_int trivial (sl_small (by have := hx0.1; omega))) es_nil))) (sl_small (by show _ + 1 ≤ 1000; omega)))) (ev_of_en (en_sliceL (xs := rows) (o1 := some (at0 + 1)) (o2 := none) (ev_var 0) (ev_bin o_add (ev_var 3) ev_int) trivial)) (sl_small (by simp only [List.length_append, List.length_cons, List.length_nil]; omega)))) (mid ⟨Nat.le_trans cutL_len (by have := hx0.1; omega), fun z => hx0.2 (cutL_mem z)⟩ lc (c2 _ _))
  refine st_if (k := decide (c % 12 = 5)) (et_cmp o_eq (ev_var (x := c % 12) 2) ev_int) (fun _ => ?_) (fun _ => st_nil ?_)
  · obtain ⟨d, hda, hdm⟩ := list_atI (xs := tx " |x0") (n := c / 512 % 4) (Int.emod_nonneg _ (by decide)) (by have := Int.emod_lt_of_pos (c / 512) (by decide : (0 : Int) < 4); show _ < ((4 : Nat) : Int); omega)
    have hd : ∀ d ∈ tx " |x0", d ≠ 10 := by decide
    exact st_retV (ev_of_en (en_addL (ev_of_en (en_addL (ev_of_en (en_sliceL (xs := rows) (o1 := none) (o2 := some at0) (ev_var 0) trivial (ev_var 3))) (ev_of_en (en_lst (es_cons (x := x ++ [d]) (ev_bin (o_addS (sl_small (by have := hx0.1; show _ + 1 ≤ 1000; omega))) (ev_var 4) (ev_ixS (x := tx " |x0") (ev_str " |x0") (ev_bin (o_mod (by decide)) (ev_bin (o_div divK) (ev_var 1) ev_int) ev_int) hda (sl_small (by decide)))) es_nil))) (sl_small (by show _ + 1 ≤ 1000; omega)))) (ev_of_en (en_sliceL (xs := rows) (o1 := some (at0 + 1)) (o2 := none) (ev_var 0) (ev_bin o_add (ev_var 3) ev_int) trivial)) (sl_small (by simp only [List.length_append, List.length_cons, List.length_nil]; omega)))) (mid (hx0.app (b := 1) ⟨Nat.le_refl _, fun z => hd d hdm (List.mem_singleton.mp z).symm⟩) lc (c2 _ _))
  refine st_if (k := decide (c % 12 = 6)) (et_cmp o_eq (ev_var (x := c % 12) 2) ev_int) (fun _ => ?_) (fun _ => st_nil ?_)
  · exact st_retV (ev_of_en (en_sliceL (xs := rows) (o1 := none) (o2 := some at0) (ev_var 0) trivial (ev_var 3))) (hq _ (by omega) (c2 _ _))
  refine st_if (k := decide (c % 12 = 7)) (et_cmp o_eq (ev_var (x := c % 12) 2) ev_int) (fun _ => ?_) (fun _ => st_nil ?_)
  · obtain ⟨z, hza, hzm⟩ := atI_neg (xs := rows) (k := 0) (by decide) (by omega)
    have hfl : ((List.replicate (25 : Int).toNat [z]).flatten).length = 25 := by simp
    exact st_retV (ev_of_en (en_addL (ev_var (x := rows) 0) (ev_of_en (en_rep (xs := [z]) (n := 25) (en_lst (es_cons (x := z) (ev_ixL (xs := rows) (ev_var 0) (ev_neg ev_int) hza) es_nil)) ev_int (by decide) (by decide) (by show 1 * 25 ≤ sizeLine; decide))) (sl_small (by rw [hfl]; omega)))) (hq _ (by rw [List.length_append, hfl]; omega) (app hx41 fun y hy => by
      obtain ⟨l, hl, hy⟩ := List.mem_flatten.mp hy
      rw [(List.mem_replicate.mp hl).2, List.mem_singleton] at hy
      rw [hy]; exact hx41 z hzm))
  · exact st_retV (ev_var (x := rows) 0) (hq _ (by omega) hx41)
end
local macro_rules | `(tactic| walk_at "le") => `(tactic| repeat (first | exact le_nil | refine le_cons ?_ | refine le_no ?_))
theorem cut_rows {A : Type} {xs : List A} {a b : Nat} : (cutL xs (some (a : Int)) (some (b : Int))).length ≤ b - a := by
  show ((xs.drop (HT.sIx xs.length 0 (some (a : Int)))).take (HT.sIx xs.length xs.length (some (b : Int)) - HT.sIx xs.length 0 (some (a : Int)))).length ≤ b - a
  rw [HT.sIx_nat, HT.sIx_nat, List.length_take]
  omega
theorem joinL_len13 {s : Tx} : ∀ xs : List Tx, (joinL s xs).length ≤ (xs.map (·.length)).sum + xs.length * s.length
  | [] => Nat.zero_le _
  | [x] => by
    show x.length ≤ _
    rw [List.map_cons, List.sum_cons]
    omega
  | x :: y :: r => by
    have ih := joinL_len13 (s := s) (y :: r)
    show (x ++ (s ++ joinL s (y :: r))).length ≤ _
    rw [List.length_append, List.length_append, List.map_cons, List.sum_cons, List.length_cons, Nat.succ_mul]
    omega
theorem joinL_C {c : Nat} : ∀ xs : List Tx, joinL [c] xs = joinC c xs
  | [] => rfl
  | [x] => rfl
  | x :: y :: r => by
    show x ++ ([c] ++ joinL [c] (y :: r)) = x ++ c :: joinC c (y :: r)
    rw [joinL_C (y :: r)]; rfl
section
variable {P : Program} {w : World} {K : PySem.W.Frag} {mg : Str → Option Value} {base : Heap}
theorem body_law (T : Txt K mg) : BodyOk P w K mg base 20 "law" s_law N_law ["_law_script"] lawS := by
  intro f cdv A outer s0 H E hr Γ Q R ⟨s, e, hs, hq⟩
  subst e
  have m1 := Int.emod_nonneg (mixCell s.l 1) (by decide : (4 : Int) ≠ 0)
  have m2 := Int.emod_lt_of_pos (mixCell s.l 1) (by decide : (0 : Int) < 4)
  obtain ⟨many, emany⟩ : ∃ m : Nat, 2 + mixCell s.l 1 % 4 = (m : Int) := ⟨(2 + mixCell s.l 1 % 4).toNat, by omega⟩
  refine st_setN 1 (xs := lawPool (mixCell s.l 0) many) (en_call (ok_law_pool T) (hr.mono (by decide)) (ea_cons (x := mixCell s.l 0) (ev_call (ok_law_cell T) (hr.mono (by decide)) (ea_cons (ev_var 0) (ea_cons (x := (0 : Int)) ev_int ea_nil)) fun P R h => ⟨s, 0, rfl, hs, by decide, h⟩) (ea_cons (x := (many : Int)) (ev_eq (ev_bin o_add ev_int (ev_bin (o_mod (by decide)) (ev_call (x := mixCell s.l 1) (ok_law_cell T) (hr.mono (by decide)) (ea_cons (ev_var 0) (ea_cons (x := (1 : Int)) ev_int ea_nil)) fun P R h => ⟨s, 1, rfl, hs, by decide, h⟩) ev_int)) emany) ea_nil)) fun P' R' h => ⟨_, many, rfl, by omega, h⟩) (fun a1 => ?_) sc_law.nd
  refine st_freeze 1 frozL ?_
  have hnl : (lawPool (mixCell s.l 0) many).length = many := by
    unfold lawPool
    rw [List.length_map, rng_len]
  have caps : ∀ c ∈ capTx, c ≠ 10 := by decide +kernel
  have smalls : ∀ c ∈ smallTx, c ≠ 10 := by decide +kernel
  have hnf : ∀ n ∈ lawPool (mixCell s.l 0) many, Flat1 4 n := fun n hn => by
    unfold lawPool at hn
    obtain ⟨k, _, rfl⟩ := List.mem_map.mp hn
    have h := poolOne_name (mixCell s.l 0 % 10 ^ 12) k
    refine ⟨isName_len h, fun z => ?_⟩
    unfold isName at h
    rw [Bool.and_eq_true, List.all_eq_true] at h
    exact caps 10 (of_decide_eq_true (h.2 _ z)) rfl
  generalize lawPool (mixCell s.l 0) many = names at hnl hnf
  refine st_set 2 (x := smSigns (mixCell s.l 2)) (ev_call (ok_law_signs T) (hr.mono (by decide)) (ea_cons (x := mixCell s.l 2) (ev_call (ok_law_cell T) (hr.mono (by decide)) (ea_cons (ev_var 0) (ea_cons (x := (2 : Int)) ev_int ea_nil)) fun P R h => ⟨s, 2, rfl, hs, by decide, h⟩) ea_nil) fun P' R' h => ⟨_, rfl, h⟩) ?_ sc_law.nd
  obtain ⟨s1, s4⟩ := smSigns_len (c := mixCell s.l 2)
  have s10 : (10 : Nat) ∉ smSigns (mixCell s.l 2) := fun z => smalls 10 (smSigns_in _ z) rfl
  generalize smSigns (mixCell s.l 2) = signs at s1 s4 s10
  have n1 : 1 ≤ names.length := by omega
  have nst := nmAt_mem n1 (mixCell s.l 1 / 4)
  have nsl := (hnf _ nst.2).1
  have h6 : (tx "signs ").length = 6 := rfl
  have h6' : (tx "start ").length = 6 := rfl
  refine st_setN 3 (xs := [tx "signs " ++ signs, tx "start " ++ nmAt names (mixCell s.l 1 / 4)]) (en_lst (es_cons (ev_bin (o_addS (sl_small (by omega))) (ev_str "signs ") (ev_var 2)) (es_cons (ev_bin (o_addS (sl_small (by omega))) (ev_str "start ") (ev_ixL (xs := names) (ev_var 1) (ev_bin (o_mod (y := (names.length : Int)) (by omega)) (ev_bin (o_div divK) (ev_call (x := mixCell s.l 1) (ok_law_cell T) (hr.mono (by decide)) (ea_cons (ev_var 0) (ea_cons (x := (1 : Int)) ev_int ea_nil)) fun P R h => ⟨s, 1, rfl, hs, by decide, h⟩) ev_int) (ev_len T.b_len (ev_var (x := names) 1))) nst.1)) es_nil))) (fun a3 => ?_) sc_law.nd
  have hcl : (cutL s.l (some ((4 : Nat) : Int)) (some ((24 : Nat) : Int))).length ≤ 20 := cut_rows
  have hel : (enumL (cutL s.l (some ((4 : Nat) : Int)) (some ((24 : Nat) : Int)))).length ≤ 20 := by rw [enumL_len]; exact hcl
  refine st_extend 3 (ad := a3) (xs := [tx "signs " ++ signs, tx "start " ++ nmAt names (mixCell s.l 1 / 4)]) (ys := (enumL (cutL s.l (some ((4 : Nat) : Int)) (some ((24 : Nat) : Int)))).map fun z => rowF (mixI z.2 z.1) names signs) (en_lc (α := Int × Int) (β := Tx) (own := [("_law_k", 8), ("_law_cell_here", 9)]) (f := fun z => rowF (mixI z.2 z.1) names signs) (src_enum (xs := cutL s.l (some ((4 : Nat) : Int)) (some ((24 : Nat) : Int))) T.b_enumerate (ev_of_en (en_sliceScr (xs := s) (o1 := some ((4 : Nat) : Int)) (o2 := some ((24 : Nat) : Int)) (ev_var 0) (by exact ev_int) (by exact ev_int)))) (tg_pair 8 9 (by decide)) (fun _ _ _ _ _ => pg2 8 9 (pgn 8 sc_law.nd) (pgn 9 sc_law.nd))
    (fun z hz _ _ _ _ _ => ev_call (ok_law_row T) (hr.mono (by decide)) (ea_cons (x := mixI z.2 z.1) (ev_call (ok_law_mix T) (hr.mono (by decide)) (ea_cons (x := z.2) (ev_var 9) (ea_cons (x := z.1) (ev_var 8) ea_nil)) fun P R h => ⟨_, _, rfl, h⟩) (ea_cons (x := names) (ev_var 1) (ea_cons (x := signs) (ev_var 2) ea_nil))) fun P' R' h => ⟨_, names, signs, rfl, n1, by omega, hnf, s1, s4, h⟩) sc_law.nd (ok := bk_law (by decide +kernel)) (hz := sl_small (by omega))) ?_ (by rw [List.length_map]; exact sl_small (by show 2 + _ ≤ 1000; omega))
  refine st_freeze 3 frozL ?_
  obtain ⟨R0, eR0⟩ : ∃ R0, R0 = [tx "signs " ++ signs, tx "start " ++ nmAt names (mixCell s.l 1 / 4)] ++ (enumL (cutL s.l (some ((4 : Nat) : Int)) (some ((24 : Nat) : Int)))).map fun z => rowF (mixI z.2 z.1) names signs := ⟨_, rfl⟩
  have hR0l : 1 ≤ R0.length ∧ R0.length ≤ 30 := by
    rw [eR0, List.length_append, List.length_map]
    show 1 ≤ 2 + _ ∧ 2 + _ ≤ 30
    omega
  have hR0x : ∀ x ∈ R0, Flat1 40 x := fun x hx => by
    rw [eR0] at hx
    rcases List.mem_append.mp hx with hx | hx
    · simp only [List.mem_cons, List.not_mem_nil, or_false] at hx
      rcases hx with rfl | rfl
      · exact (Flat1.app (a := 6) (b := 4) ⟨Nat.le_refl _, by decide⟩ ⟨s4, s10⟩).mono (by decide)
      · exact (Flat1.app (a := 6) (b := 4) ⟨Nat.le_refl _, by decide⟩ (hnf _ nst.2)).mono (by decide)
    · obtain ⟨z, _, rfl⟩ := List.mem_map.mp hx
      exact rowF_flat n1 hnf s1 s10
  rw [← eR0]
  refine st_setEx 3 (i := repList) (G := fun rows' : List Tx => rows'.length ≤ 90 ∧ ∀ x ∈ rows', Flat1 41 x) (ex_call (ok_law_spoilt T) (hr.mono (by decide)) (ea_cons (x := R0) (ev_var 3) (ea_cons (x := mixCell s.l 3) (ev_call (ok_law_cell T) (hr.mono (by decide)) (ea_cons (ev_var 0) (ea_cons (x := (3 : Int)) ev_int ea_nil)) fun P R h => ⟨s, 3, rfl, hs, by decide, h⟩) ea_nil)) fun P' R' h => ⟨R0, _, rfl, hR0l.1, hR0l.2, hR0x, fun rows' g1 g2 => h _ ⟨rows', ⟨g1, g2⟩, rfl⟩⟩) (fun rows' hrows => ?_) sc_law.nd
  obtain ⟨r90, rx⟩ := hrows
  have hsum := sum_len (b := 41) (xs := rows') fun x hx => (rx x hx).1
  have hsum2 : 41 * rows'.length ≤ 41 * 90 := Nat.mul_le_mul_left _ r90
  have htl := joinL_len13 (s := tx "\n") rows'
  have hn1 : (tx "\n").length = 1 := rfl
  rw [hn1] at htl
  refine st_set 4 (x := joinL (tx "\n") rows') (ev_join (xs := rows') (ev_str "\n") (ev_var 3) (by rw [hn1]; omega)) ?_ sc_law.nd
  have hsplit : splitC 10 [] (joinL (tx "\n") rows') = rows' ∨ splitC 10 [] (joinL (tx "\n") rows') = [[]] := by
    cases rows' with
    | nil => exact .inr rfl
    | cons x xs => exact .inl (split_join (c := 10) xs x fun y hy => (rx y hy).2)
  generalize joinL (tx "\n") rows' = text at htl hsplit
  have htx : text.length + 2 ≤ sizeLine := Nat.le_trans (show text.length + 2 ≤ 900000 by omega) (by decide)
  refine st_set 3 (x := splitC 10 [] text) (ev_of_en (en_split (c := 10) (ev_var 4) (ev_str "\n") (by decide) htx)) ?_ sc_law.nd
  have hjoin : joinL (tx "\n") (splitC 10 [] text) = text := by
    have := splitC_join (c := 10) text []
    rw [List.nil_append, ← joinL_C] at this
    exact this
  have hRd : Rd13 text (splitC 10 [] text) := ⟨rfl, by omega, by
    rcases hsplit with h | h <;> rw [h]
    · omega
    · decide, fun x hx => by
    rcases hsplit with h | h <;> rw [h] at hx
    · have := (rx x hx).1; omega
    · rw [List.mem_singleton.mp hx]; exact Nat.zero_le _⟩
  generalize splitC 10 [] text = rows at hRd hjoin
  have hrl := hRd.rl
  refine st_le (Γ' := [.no, .no, .no, vl rows, vl text, .no, .no, .no, .no, .no]) (by walk_at "le") ?_
  have tok : ∀ x : Tx, (x.all fun c => decide (c < 1114112)) = true → TxOk x := fun x h => tok_lit h
  cases hb : badF ok13 0 rows with
  | some k =>
    refine st_set 5 (x := ((tx "row", (k : Int)) : Tx × Int)) (ev_call (x := ((tx "row", (k : Int)) : Tx × Int)) (ok_law_read T) (hr.mono (by decide)) (ea_cons (x := text) (ev_var 4) ea_nil) fun P' R' h => ⟨text, rows, rfl, hRd, fun k' hk' => (by rw [hb] at hk'; cases hk'; exact h), fun a b rs g1 g2 g3 g4 => (by rw [g2, well_none wr13 g1 g3 g4] at hb; cases hb)⟩) ?_ sc_law.nd
    refine st_set 6 (x := some (k : Int)) (ev_call (x := some (k : Int)) (ok_law_bad_row T) (hr.mono (by decide)) (ea_cons (x := rows) (ev_var 3) ea_nil) fun P' R' h => ⟨rows, rfl, by omega, hRd.xl, by rw [hb]; exact h⟩) ?_ sc_law.nd
    refine st_if (k := true) (et_cmp (o_notO (x := some (k : Int))) (ev_var 6) ev_non) (fun _ => ?_) (fun h => nomatch h)
    have hok : TxOk (tx "row") := tok _ (by decide)
    exact st_retV (ev_eq (ev_cmp (o_eqD (x := ((tx "row", (k : Int)) : Tx × Int)) (y := ((tx "row", (k : Int)) : Tx × Int)) hr ⟨hok, trivial⟩ ⟨hok, trivial⟩) (ev_var 5) (ev_pair (ev_str "row") (ev_un (ev_var 6)))) (decide_eq_true rfl)) hq
  | none =>
    obtain ⟨a, b, rs, g1, g2, g3, g4⟩ := well_of wr13 hb
    have same : ∀ (a' b' : Tx) (rs' : List RuleD), (∀ r ∈ rs', r.good = true) → rows = a' :: b' :: rs'.map RuleD.told → a' = a ∧ b' = b ∧ rs' = rs := fun a' b' rs' e1 e2 => by
      rw [g2] at e2
      injection e2 with e3 e4
      injection e4 with e4 e5
      exact ⟨e3.symm, e4.symm, (told_inj_map g1 e1 e5).symm⟩
    have lenR : rows.length = rs.length + 2 := by rw [g2, List.length_cons, List.length_cons, List.length_map]
    have xa := hRd.xl a (by rw [g2]; exact List.mem_cons_self ..)
    have xb := hRd.xl b (by rw [g2]; exact List.mem_cons_of_mem _ (List.mem_cons_self ..))
    cases hw : whyG (a.drop 6) (b.drop 6) rs with
    | some y =>
      refine st_set 5 (x := ((tx "why", y) : Tx × Why)) (ev_call (x := ((tx "why", y) : Tx × Why)) (ok_law_read T) (hr.mono (by decide)) (ea_cons (x := text) (ev_var 4) ea_nil) fun P' R' h => ⟨text, rows, rfl, hRd, fun k' hk' => (by rw [hb] at hk'; cases hk'), fun a' b' rs' e1 e2 e3 e4 => (by
        obtain ⟨rfl, rfl, rfl⟩ := same a' b' rs' e1 e2
        exact ⟨fun z => (by rw [hw] at z; cases z), fun y' hy => by rw [hw] at hy; cases hy; exact h⟩)⟩) ?_ sc_law.nd
      refine st_set 6 (x := (none : Option Int)) (ev_call (x := (none : Option Int)) (ok_law_bad_row T) (hr.mono (by decide)) (ea_cons (x := rows) (ev_var 3) ea_nil) fun P' R' h => ⟨rows, rfl, by omega, hRd.xl, by rw [hb]; exact h⟩) ?_ sc_law.nd
      refine st_if (k := false) (et_cmp (o_notO (x := (none : Option Int))) (ev_var 6) ev_non) (fun h => nomatch h) (fun _ => st_nil ?_)
      refine st_set 7 (x := some y) (ev_call (x := some y) (ok_law_fault T) (hr.mono (by decide)) (ea_cons (x := rows) (ev_var 3) ea_nil) fun P' R' h => ⟨a, b, rs, by rw [g2], g1, by omega, xa, xb, by rw [hw]; exact h⟩) ?_ sc_law.nd
      refine st_if (k := true) (et_cmp (o_notO (x := some y)) (ev_var 7) ev_non) (fun _ => ?_) (fun h => nomatch h)
      have hok : TxOk (tx "why") := tok _ (by decide)
      have hyo := whyG_ok hw
      exact st_retV (ev_eq (ev_cmp (o_eqD (x := ((tx "why", y) : Tx × Why)) (y := ((tx "why", y) : Tx × Why)) hr ⟨hok, hyo⟩ ⟨hok, hyo⟩) (ev_var 5) (ev_pair (ev_str "why") (ev_un (ev_var 7)))) (decide_eq_true rfl)) hq
    | none =>
      refine st_set 5 (x := ((tx "read", mkG (a.drop 6) (b.drop 6) rs) : Tx × GramD)) (ev_call (x := ((tx "read", mkG (a.drop 6) (b.drop 6) rs) : Tx × GramD)) (ok_law_read T) (hr.mono (by decide)) (ea_cons (x := text) (ev_var 4) ea_nil) fun P' R' h => ⟨text, rows, rfl, hRd, fun k' hk' => (by rw [hb] at hk'; cases hk'), fun a' b' rs' e1 e2 e3 e4 => (by
        obtain ⟨rfl, rfl, rfl⟩ := same a' b' rs' e1 e2
        exact ⟨fun _ => h, fun y' hy => by rw [hw] at hy; cases hy⟩)⟩) ?_ sc_law.nd
      refine st_set 6 (x := (none : Option Int)) (ev_call (x := (none : Option Int)) (ok_law_bad_row T) (hr.mono (by decide)) (ea_cons (x := rows) (ev_var 3) ea_nil) fun P' R' h => ⟨rows, rfl, by omega, hRd.xl, by rw [hb]; exact h⟩) ?_ sc_law.nd
      refine st_if (k := false) (et_cmp (o_notO (x := (none : Option Int))) (ev_var 6) ev_non) (fun h => nomatch h) (fun _ => st_nil ?_)
      refine st_set 7 (x := (none : Option Why)) (ev_call (x := (none : Option Why)) (ok_law_fault T) (hr.mono (by decide)) (ea_cons (x := rows) (ev_var 3) ea_nil) fun P' R' h => ⟨a, b, rs, by rw [g2], g1, by omega, xa, xb, by rw [hw]; exact h⟩) ?_ sc_law.nd
      refine st_if (k := false) (et_cmp (o_notO (x := (none : Option Why))) (ev_var 7) ev_non) (fun h => nomatch h) (fun _ => st_nil ?_)
      have ea : a = tx "signs " ++ a.drop 6 := by
        have := List.take_append_drop 6 a
        rw [g3] at this
        exact this.symm
      have eb : b = tx "start " ++ b.drop 6 := by
        have := List.take_append_drop 6 b
        rw [g4] at this
        exact this.symm
      have htold : (mkG (a.drop 6) (b.drop 6) rs).told = text := by
        rw [← hjoin, g2]
        show joinL (tx "\n") ([tx "signs " ++ a.drop 6, tx "start " ++ b.drop 6] ++ rs.map RuleD.told) = _
        rw [← ea, ← eb]; rfl
      have d0 : cutL a (some 6) none = a.drop 6 := cutL_from 6
      have d1 : cutL b (some 6) none = b.drop 6 := cutL_from 6
      have i0 : atI rows 0 = some a := by rw [g2]; exact atI_nat (j := 0) rfl
      have i1 : atI rows 1 = some b := by rw [g2]; exact atI_nat (j := 1) rfl
      have ld : (a.drop 6).length ≤ 900 ∧ (b.drop 6).length ≤ 900 := by rw [List.length_drop, List.length_drop]; omega
      have hrs100 : rs.length ≤ 100 := by omega
      refine st_if (k := false) (et_eq (et_or3 (k := false) (m := false) (n := false) (et_eq (et_cmp o_neS (ev_fst (x := ((tx "read", mkG (a.drop 6) (b.drop 6) rs) : Tx × GramD)) (ev_var 5)) (ev_str "read")) rfl)
        (fun _ => et_eq (et_not (et_val (ev_isiI (x := mkG (a.drop 6) (b.drop 6) rs) T.b_isinstance T.o_Grammar T.o_Grammar T.u_Grammar_Grammar rfl (ev_snd (x := ((tx "read", mkG (a.drop 6) (b.drop 6) rs) : Tx × GramD)) (ev_var 5))))) rfl)
        (fun _ _ => et_eq (et_cmp o_neS (ev_meth0 (x := mkG (a.drop 6) (b.drop 6) rs) (y := (mkG (a.drop 6) (b.drop 6) rs).told) T.o_Grammar (ok_Grammar_told T) (hr.mono (by decide)) rfl (lk rfl) (ev_snd (x := ((tx "read", mkG (a.drop 6) (b.drop 6) rs) : Tx × GramD)) (ev_var 5)) fun P' R' h => ⟨_, rfl, hrs100, ld.1, ld.2, g1, h⟩) (ev_var 4)) (by rw [htold]; simp))) rfl) (fun h => nomatch h) (fun _ => st_nil ?_)
      exact st_retV (ev_eq (y := true) (ev_and (k := true) (m := true) (ev_eq (ev_cmp o_eqS (ev_fld (x := mkG (a.drop 6) (b.drop 6) rs) (y := a.drop 6) T.o_Grammar T.a_Grammar_signs rfl rfl (ev_snd (x := ((tx "read", mkG (a.drop 6) (b.drop 6) rs) : Tx × GramD)) (ev_var 5))) (ev_eq (ev_sliceS (x := a) (o1 := some 6) (o2 := none) (ev_ixL (xs := rows) (ev_var 3) ev_int i0) ev_int trivial (sl_small (by omega))) d0)) (decide_eq_true rfl))
        (fun _ => ev_and (k := true) (m := true) (ev_eq (ev_cmp o_eqS (ev_fld (x := mkG (a.drop 6) (b.drop 6) rs) (y := b.drop 6) T.o_Grammar T.a_Grammar_start rfl rfl (ev_snd (x := ((tx "read", mkG (a.drop 6) (b.drop 6) rs) : Tx × GramD)) (ev_var 5))) (ev_eq (ev_sliceS (x := b) (o1 := some 6) (o2 := none) (ev_ixL (xs := rows) (ev_var 3) ev_int i1) ev_int trivial (sl_small (by omega))) d1)) (decide_eq_true rfl))
        fun _ => ev_one (ev_eq (ev_cmp o_eq (ev_meth0 (x := mkG (a.drop 6) (b.drop 6) rs) (y := (rs.length : Int)) T.o_Grammar (ok_Grammar_many T) (hr.mono (by decide)) rfl (lk rfl) (ev_snd (x := ((tx "read", mkG (a.drop 6) (b.drop 6) rs) : Tx × GramD)) (ev_var 5)) fun P' R' h => ⟨_, rfl, h⟩) (ev_bin o_sub (ev_len T.b_len (ev_var (x := rows) 3)) ev_int)) (decide_eq_true (by rw [lenR]; omega))))) rfl) hq
end
theorem ar1 {P : List Value → Prop} (h : ∀ a0, P [a0]) (us : List Value) (hl : us.length = 1) : P us := match us, hl with | [a0], _ => h a0
theorem ar2 {P : List Value → Prop} (h : ∀ a0 a1, P [a0, a1]) (us : List Value) (hl : us.length = 2) : P us := match us, hl with | [a0, a1], _ => h a0 a1
theorem ar3 {P : List Value → Prop} (h : ∀ a0 a1 a2, P [a0, a1, a2]) (us : List Value) (hl : us.length = 3) : P us := match us, hl with | [a0, a1, a2], _ => h a0 a1 a2
theorem ar4 {P : List Value → Prop} (h : ∀ a0 a1 a2 a3, P [a0, a1, a2, a3]) (us : List Value) (hl : us.length = 4) : P us := match us, hl with | [a0, a1, a2, a3], _ => h a0 a1 a2 a3
theorem ar5 {P : List Value → Prop} (h : ∀ a0 a1 a2 a3 a4, P [a0, a1, a2, a3, a4]) (us : List Value) (hl : us.length = 5) : P us := match us, hl with | [a0, a1, a2, a3, a4], _ => h a0 a1 a2 a3 a4
theorem df_of {K : PySem.W.Frag} {h : Heap} {mg : Str → Option Value} {n : Str} {st : Stmt} {ps : List Str} {f : Addr} {oc : Value} {od an : Option Addr} {osl : Array (Option Value)} {kV doc pm cdv ct : Value} (X : K.In h) (G : h.Ns mainGlobals mg) (a : PySem.W.nsIn K mainGlobals n = some (some (.ref f))) (l : K.lookup f = some ⟨oc, od, .func (PySem.W.fnOf n n (defArgs st) (defBody st) (defScope st) .none kV doc pm an cdv ct), osl⟩)
    (c : PySem.W.codeIn K cdv n = true) (k : PySem.W.keepIn K (.ref f) = true)
    (hb : ∀ (kV doc pm : Value) (an : Option Addr) (cdv ct : Value) (us : List Value), us.length = ps.length → bindArgs (PySem.W.fnOf n n (defArgs st) (defBody st) (defScope st) .none kV doc pm an cdv ct) ⟨us, []⟩ = pure (ps.zip us)) : Df K mg n st ps :=
  ⟨f, _, fun_mk l c k, (fun_mk (st := st) l c k).binds hb, PySem.W.mg_of X G a⟩
theorem txt_mk {K : PySem.W.Frag} {h : Heap} {mg : Str → Option Value} (X : K.In h) (G : h.Ns mainGlobals mg)
    (zb_ValueError : PySem.W.nsIn K mainGlobals "ValueError" = some none)
    (zb_all : PySem.W.nsIn K mainGlobals "all" = some none)
    (zb_any : PySem.W.nsIn K mainGlobals "any" = some none)
    (zb_bool : PySem.W.nsIn K mainGlobals "bool" = some none)
    (zb_enumerate : PySem.W.nsIn K mainGlobals "enumerate" = some none)
    (zb_int : PySem.W.nsIn K mainGlobals "int" = some none)
    (zb_isinstance : PySem.W.nsIn K mainGlobals "isinstance" = some none)
    (zb_len : PySem.W.nsIn K mainGlobals "len" = some none)
    (zb_list : PySem.W.nsIn K mainGlobals "list" = some none)
    (zb_range : PySem.W.nsIn K mainGlobals "range" = some none)
    (zb_reversed : PySem.W.nsIn K mainGlobals "reversed" = some none)
    (zb_set : PySem.W.nsIn K mainGlobals "set" = some none)
    (zb_str : PySem.W.nsIn K mainGlobals "str" = some none)
    (zb_zip : PySem.W.nsIn K mainGlobals "zip" = some none)
    {t_MOST : Tok} (zc_MOST : PySem.W.nsIn K mainGlobals "MOST" = some (some (.int 6 t_MOST)))
    {t_MIRROR : Tok} (zc_MIRROR : PySem.W.nsIn K mainGlobals "MIRROR" = some (some (.int 4 t_MIRROR)))
    {t_CAPITALS : Tok} (zc_CAPITALS : PySem.W.nsIn K mainGlobals "CAPITALS" = some (some (.str (Str.ofString "ABCDEFGHIJKLMNOPQRSTUVWXYZ") t_CAPITALS)))
    {t_SMALL : Tok} (zc_SMALL : PySem.W.nsIn K mainGlobals "SMALL" = some (some (.str (Str.ofString "abcdefghijklmnopqrstuvwxyz") t_SMALL)))
    {t_MOST_LETTERS : Tok} (zc_MOST_LETTERS : PySem.W.nsIn K mainGlobals "MOST_LETTERS" = some (some (.int 4 t_MOST_LETTERS)))
    {t_MOST_COST : Tok} (zc_MOST_COST : PySem.W.nsIn K mainGlobals "MOST_COST" = some (some (.int 9 t_MOST_COST)))
    {t_MOST_SIGNS : Tok} (zc_MOST_SIGNS : PySem.W.nsIn K mainGlobals "MOST_SIGNS" = some (some (.int 4 t_MOST_SIGNS)))
    {t_MOST_RULES : Tok} (zc_MOST_RULES : PySem.W.nsIn K mainGlobals "MOST_RULES" = some (some (.int 24 t_MOST_RULES)))
    {t_MOST_NAMES : Tok} (zc_MOST_NAMES : PySem.W.nsIn K mainGlobals "MOST_NAMES" = some (some (.int 8 t_MOST_NAMES)))
    {t_COSTS : Tok} (zc_COSTS : PySem.W.nsIn K mainGlobals "COSTS" = some (some (.str (Str.ofString "123456789") t_COSTS)))
    {t_TURNINGS : Tok} (zc_TURNINGS : PySem.W.nsIn K mainGlobals "TURNINGS" = some (some (.str (Str.ofString "01234567") t_TURNINGS)))
    (xn : PySem.W.specialIn K (.builtin "object.__class__") "__get__" = some (some (.builtin "getset_descriptor.__get__")))
    (xq : PySem.W.takesIn K (.builtin "object.__class__") = some true)
    {C_QuiltError : Addr}
    (xa_QuiltError : PySem.W.nsIn K mainGlobals "QuiltError" = some (some (.ref C_QuiltError)))
    (xk_QuiltError : PySem.W.keepIn K (.ref C_QuiltError) = true)
    (xt_QuiltError : PySem.W.typeIn K (.ref C_QuiltError) = some (.type "type"))
    (xg_QuiltError : PySem.W.findIn K (.ref C_QuiltError) "__getattribute__" = some (some (.builtin "BaseException.__getattribute__")))
    (xh_QuiltError : PySem.W.findIn K (.ref C_QuiltError) "__getattr__" = some none)
    (xs_QuiltError : PySem.W.subIn K (.ref C_QuiltError) (.type "BaseException") = some true)
    (xd_QuiltError : PySem.W.hasDictIn K C_QuiltError = true)
    (xc_QuiltError : PySem.W.findIn K (.ref C_QuiltError) "__class__" = some (some (.builtin "object.__class__")))
    (xm_QuiltError : PySem.W.mroIn K C_QuiltError (.type "object") = some true)
    {C_NoFit : Addr}
    (xa_NoFit : PySem.W.nsIn K mainGlobals "NoFit" = some (some (.ref C_NoFit)))
    (xk_NoFit : PySem.W.keepIn K (.ref C_NoFit) = true)
    (xt_NoFit : PySem.W.typeIn K (.ref C_NoFit) = some (.type "type"))
    (xg_NoFit : PySem.W.findIn K (.ref C_NoFit) "__getattribute__" = some (some (.builtin "BaseException.__getattribute__")))
    (xh_NoFit : PySem.W.findIn K (.ref C_NoFit) "__getattr__" = some none)
    (xs_NoFit : PySem.W.subIn K (.ref C_NoFit) (.type "BaseException") = some true)
    (xd_NoFit : PySem.W.hasDictIn K C_NoFit = true)
    (xc_NoFit : PySem.W.findIn K (.ref C_NoFit) "__class__" = some (some (.builtin "object.__class__")))
    (xm_NoFit : PySem.W.mroIn K C_NoFit (.type "object") = some true)
    {C_NoRule : Addr}
    (xa_NoRule : PySem.W.nsIn K mainGlobals "NoRule" = some (some (.ref C_NoRule)))
    (xk_NoRule : PySem.W.keepIn K (.ref C_NoRule) = true)
    (xt_NoRule : PySem.W.typeIn K (.ref C_NoRule) = some (.type "type"))
    (xg_NoRule : PySem.W.findIn K (.ref C_NoRule) "__getattribute__" = some (some (.builtin "BaseException.__getattribute__")))
    (xh_NoRule : PySem.W.findIn K (.ref C_NoRule) "__getattr__" = some none)
    (xs_NoRule : PySem.W.subIn K (.ref C_NoRule) (.type "BaseException") = some true)
    (xd_NoRule : PySem.W.hasDictIn K C_NoRule = true)
    (xc_NoRule : PySem.W.findIn K (.ref C_NoRule) "__class__" = some (some (.builtin "object.__class__")))
    (xm_NoRule : PySem.W.mroIn K C_NoRule (.type "object") = some true)
    {C_NoGrammar : Addr}
    (xa_NoGrammar : PySem.W.nsIn K mainGlobals "NoGrammar" = some (some (.ref C_NoGrammar)))
    (xk_NoGrammar : PySem.W.keepIn K (.ref C_NoGrammar) = true)
    (xt_NoGrammar : PySem.W.typeIn K (.ref C_NoGrammar) = some (.type "type"))
    (xg_NoGrammar : PySem.W.findIn K (.ref C_NoGrammar) "__getattribute__" = some (some (.builtin "BaseException.__getattribute__")))
    (xh_NoGrammar : PySem.W.findIn K (.ref C_NoGrammar) "__getattr__" = some none)
    (xs_NoGrammar : PySem.W.subIn K (.ref C_NoGrammar) (.type "BaseException") = some true)
    (xd_NoGrammar : PySem.W.hasDictIn K C_NoGrammar = true)
    (xc_NoGrammar : PySem.W.findIn K (.ref C_NoGrammar) "__class__" = some (some (.builtin "object.__class__")))
    (xm_NoGrammar : PySem.W.mroIn K C_NoGrammar (.type "object") = some true)
    {C_NoText : Addr}
    (xa_NoText : PySem.W.nsIn K mainGlobals "NoText" = some (some (.ref C_NoText)))
    (xk_NoText : PySem.W.keepIn K (.ref C_NoText) = true)
    (xt_NoText : PySem.W.typeIn K (.ref C_NoText) = some (.type "type"))
    (xg_NoText : PySem.W.findIn K (.ref C_NoText) "__getattribute__" = some (some (.builtin "BaseException.__getattribute__")))
    (xh_NoText : PySem.W.findIn K (.ref C_NoText) "__getattr__" = some none)
    (xs_NoText : PySem.W.subIn K (.ref C_NoText) (.type "BaseException") = some true)
    (xd_NoText : PySem.W.hasDictIn K C_NoText = true)
    (xc_NoText : PySem.W.findIn K (.ref C_NoText) "__class__" = some (some (.builtin "object.__class__")))
    (xm_NoText : PySem.W.mroIn K C_NoText (.type "object") = some true)
    (xp_NoRule : PySem.W.excIn K C_NoRule [.type "ValueError", .type "Exception", .type "BaseException", .type "object"] "ValueError.__new__" = true)
    (xp_NoFit : PySem.W.excIn K C_NoFit [.type "ValueError", .type "Exception", .type "BaseException", .type "object"] "ValueError.__new__" = true)
    {nm_NoGrammar qn_NoGrammar : Str} {NN_NoGrammar fI_NoGrammar : Addr} {bs_NoGrammar bm_NoGrammar : List Value} {sn_NoGrammar : List Str} {su_NoGrammar : List Value} {ab_NoGrammar : Bool} {col_NoGrammar : _} {dd_NoGrammar : Option Addr} {k0_NoGrammar k1_NoGrammar k2_NoGrammar k3_NoGrammar k5_NoGrammar : Option Value}
    (xl_NoGrammar : K.lookup C_NoGrammar = some (excClassObj nm_NoGrammar qn_NoGrammar C_NoGrammar NN_NoGrammar bs_NoGrammar bm_NoGrammar true sn_NoGrammar su_NoGrammar ab_NoGrammar col_NoGrammar dd_NoGrammar k0_NoGrammar k1_NoGrammar k2_NoGrammar k3_NoGrammar k5_NoGrammar "ValueError.__new__"))
    (xv_NoGrammar : PySem.HandSPX.refsVE bm_NoGrammar = true)
    (xw_NoGrammar : PySem.W.findIn K (.ref C_NoGrammar) "__setattr__" = some (some (.builtin "object.__setattr__")))
    (xf_NoGrammar : PySem.W.findIn K (.ref C_NoGrammar) "why" = some none)
    (xi_NoGrammar : PySem.W.findIn K (.ref C_NoGrammar) "__init__" = some (some (.ref fI_NoGrammar)))
    (xj_NoGrammar : PySem.W.typeIn K (.ref fI_NoGrammar) = some (.type "function"))
    {od_iNoGrammar an_iNoGrammar : Option Addr} {sl_iNoGrammar : Array (Option Value)} {oc_iNoGrammar kV_iNoGrammar dc_iNoGrammar pm_iNoGrammar cd_iNoGrammar ct_iNoGrammar : Value}
    (xo_NoGrammar : K.lookup fI_NoGrammar = some ⟨oc_iNoGrammar, od_iNoGrammar, .func (PySem.W.fnOf "__init__" "NoGrammar.__init__" (defArgs s_NoGrammar_init) (defBody s_NoGrammar_init) (defScope s_NoGrammar_init) .none kV_iNoGrammar dc_iNoGrammar pm_iNoGrammar an_iNoGrammar cd_iNoGrammar ct_iNoGrammar), sl_iNoGrammar⟩)
    (xu_NoGrammar : PySem.W.codeIn K cd_iNoGrammar "NoGrammar.__init__" = true)
    (xz_NoGrammar : PySem.W.keepIn K (.ref fI_NoGrammar) = true)
    {nm_NoText qn_NoText : Str} {NN_NoText fI_NoText : Addr} {bs_NoText bm_NoText : List Value} {sn_NoText : List Str} {su_NoText : List Value} {ab_NoText : Bool} {col_NoText : _} {dd_NoText : Option Addr} {k0_NoText k1_NoText k2_NoText k3_NoText k5_NoText : Option Value}
    (xl_NoText : K.lookup C_NoText = some (excClassObj nm_NoText qn_NoText C_NoText NN_NoText bs_NoText bm_NoText true sn_NoText su_NoText ab_NoText col_NoText dd_NoText k0_NoText k1_NoText k2_NoText k3_NoText k5_NoText "ValueError.__new__"))
    (xv_NoText : PySem.HandSPX.refsVE bm_NoText = true)
    (xw_NoText : PySem.W.findIn K (.ref C_NoText) "__setattr__" = some (some (.builtin "object.__setattr__")))
    (xf_NoText : PySem.W.findIn K (.ref C_NoText) "row" = some none)
    (xi_NoText : PySem.W.findIn K (.ref C_NoText) "__init__" = some (some (.ref fI_NoText)))
    (xj_NoText : PySem.W.typeIn K (.ref fI_NoText) = some (.type "function"))
    {od_iNoText an_iNoText : Option Addr} {sl_iNoText : Array (Option Value)} {oc_iNoText kV_iNoText dc_iNoText pm_iNoText cd_iNoText ct_iNoText : Value}
    (xo_NoText : K.lookup fI_NoText = some ⟨oc_iNoText, od_iNoText, .func (PySem.W.fnOf "__init__" "NoText.__init__" (defArgs s_NoText_init) (defBody s_NoText_init) (defScope s_NoText_init) .none kV_iNoText dc_iNoText pm_iNoText an_iNoText cd_iNoText ct_iNoText), sl_iNoText⟩)
    (xu_NoText : PySem.W.codeIn K cd_iNoText "NoText.__init__" = true)
    (xz_NoText : PySem.W.keepIn K (.ref fI_NoText) = true)
    (qs_QuiltError : PySem.W.specialIn K (.ref C_QuiltError) "__getattribute__" = some (some (.builtin "type.__getattribute__")))
    (qr_QuiltError : PySem.W.readsIn K C_QuiltError (.type "type") = true)
    (qf_QuiltError : PySem.W.findCls K (.ref C_QuiltError) (.type "type") "__init__" = some (.val (.builtin "ValueError.__init__")))
    (y_NoRule_NoRule : PySem.W.subIn K (.ref C_NoRule) (.ref C_NoRule) = some true)
    (y_NoRule_QuiltError : PySem.W.subIn K (.ref C_NoRule) (.ref C_QuiltError) = some true)
    (y_NoRule_NoText : PySem.W.subIn K (.ref C_NoRule) (.ref C_NoText) = some false)
    (d_NoRule_NoText : ¬ C_NoRule = C_NoText)
    (y_NoRule_NoGrammar : PySem.W.subIn K (.ref C_NoRule) (.ref C_NoGrammar) = some false)
    (d_NoRule_NoGrammar : ¬ C_NoRule = C_NoGrammar)
    (y_NoRule_ValueError : PySem.W.subIn K (.ref C_NoRule) (.type "ValueError") = some true)
    (y_NoFit_NoRule : PySem.W.subIn K (.ref C_NoFit) (.ref C_NoRule) = some false)
    (d_NoFit_NoRule : ¬ C_NoFit = C_NoRule)
    (y_NoFit_QuiltError : PySem.W.subIn K (.ref C_NoFit) (.ref C_QuiltError) = some true)
    (y_NoFit_NoText : PySem.W.subIn K (.ref C_NoFit) (.ref C_NoText) = some false)
    (d_NoFit_NoText : ¬ C_NoFit = C_NoText)
    (y_NoFit_NoGrammar : PySem.W.subIn K (.ref C_NoFit) (.ref C_NoGrammar) = some false)
    (d_NoFit_NoGrammar : ¬ C_NoFit = C_NoGrammar)
    (y_NoFit_ValueError : PySem.W.subIn K (.ref C_NoFit) (.type "ValueError") = some true)
    (y_NoGrammar_NoRule : PySem.W.subIn K (.ref C_NoGrammar) (.ref C_NoRule) = some false)
    (d_NoGrammar_NoRule : ¬ C_NoGrammar = C_NoRule)
    (y_NoGrammar_QuiltError : PySem.W.subIn K (.ref C_NoGrammar) (.ref C_QuiltError) = some true)
    (y_NoGrammar_NoText : PySem.W.subIn K (.ref C_NoGrammar) (.ref C_NoText) = some false)
    (d_NoGrammar_NoText : ¬ C_NoGrammar = C_NoText)
    (y_NoGrammar_NoGrammar : PySem.W.subIn K (.ref C_NoGrammar) (.ref C_NoGrammar) = some true)
    (y_NoGrammar_ValueError : PySem.W.subIn K (.ref C_NoGrammar) (.type "ValueError") = some true)
    (y_NoText_NoRule : PySem.W.subIn K (.ref C_NoText) (.ref C_NoRule) = some false)
    (d_NoText_NoRule : ¬ C_NoText = C_NoRule)
    (y_NoText_QuiltError : PySem.W.subIn K (.ref C_NoText) (.ref C_QuiltError) = some true)
    (y_NoText_NoText : PySem.W.subIn K (.ref C_NoText) (.ref C_NoText) = some true)
    (y_NoText_NoGrammar : PySem.W.subIn K (.ref C_NoText) (.ref C_NoGrammar) = some false)
    (d_NoText_NoGrammar : ¬ C_NoText = C_NoGrammar)
    (y_NoText_ValueError : PySem.W.subIn K (.ref C_NoText) (.type "ValueError") = some true)
    {O_Rule : Addr}
    (oa_Rule : PySem.W.nsIn K mainGlobals "Rule" = some (some (.ref O_Rule)))
    (ob_Rule : PySem.W.plainGet K O_Rule Str.empty = true)
    (oc_Rule : PySem.W.hasDictIn K O_Rule = true)
    (od_Rule : PySem.W.plainOver K O_Rule = true)
    (oe_Rule : PySem.W.findIn K (.ref O_Rule) "__setattr__" = some (some (.builtin "object.__setattr__")))
    (of_Rule : PySem.W.makesIn K O_Rule = true)
    (og_Rule : PySem.W.keepIn K (.ref O_Rule) = true)
    (oh_Rule : PySem.W.typeIn K (.ref O_Rule) = some (.type "type"))
    (oi_Rule : PySem.W.findIn K (.ref O_Rule) "__class__" = some (some (.builtin "object.__class__")))
    (oj_Rule : PySem.W.mroIn K O_Rule (.type "object") = some true)
    {O_CellRule : Addr}
    (oa_CellRule : PySem.W.nsIn K mainGlobals "CellRule" = some (some (.ref O_CellRule)))
    (ob_CellRule : PySem.W.plainGet K O_CellRule Str.empty = true)
    (oc_CellRule : PySem.W.hasDictIn K O_CellRule = true)
    (od_CellRule : PySem.W.plainOver K O_CellRule = true)
    (oe_CellRule : PySem.W.findIn K (.ref O_CellRule) "__setattr__" = some (some (.builtin "object.__setattr__")))
    (of_CellRule : PySem.W.makesIn K O_CellRule = true)
    (og_CellRule : PySem.W.keepIn K (.ref O_CellRule) = true)
    (oh_CellRule : PySem.W.typeIn K (.ref O_CellRule) = some (.type "type"))
    (oi_CellRule : PySem.W.findIn K (.ref O_CellRule) "__class__" = some (some (.builtin "object.__class__")))
    (oj_CellRule : PySem.W.mroIn K O_CellRule (.type "object") = some true)
    {O_BesideRule : Addr}
    (oa_BesideRule : PySem.W.nsIn K mainGlobals "BesideRule" = some (some (.ref O_BesideRule)))
    (ob_BesideRule : PySem.W.plainGet K O_BesideRule Str.empty = true)
    (oc_BesideRule : PySem.W.hasDictIn K O_BesideRule = true)
    (od_BesideRule : PySem.W.plainOver K O_BesideRule = true)
    (oe_BesideRule : PySem.W.findIn K (.ref O_BesideRule) "__setattr__" = some (some (.builtin "object.__setattr__")))
    (of_BesideRule : PySem.W.makesIn K O_BesideRule = true)
    (og_BesideRule : PySem.W.keepIn K (.ref O_BesideRule) = true)
    (oh_BesideRule : PySem.W.typeIn K (.ref O_BesideRule) = some (.type "type"))
    (oi_BesideRule : PySem.W.findIn K (.ref O_BesideRule) "__class__" = some (some (.builtin "object.__class__")))
    (oj_BesideRule : PySem.W.mroIn K O_BesideRule (.type "object") = some true)
    {O_AboveRule : Addr}
    (oa_AboveRule : PySem.W.nsIn K mainGlobals "AboveRule" = some (some (.ref O_AboveRule)))
    (ob_AboveRule : PySem.W.plainGet K O_AboveRule Str.empty = true)
    (oc_AboveRule : PySem.W.hasDictIn K O_AboveRule = true)
    (od_AboveRule : PySem.W.plainOver K O_AboveRule = true)
    (oe_AboveRule : PySem.W.findIn K (.ref O_AboveRule) "__setattr__" = some (some (.builtin "object.__setattr__")))
    (of_AboveRule : PySem.W.makesIn K O_AboveRule = true)
    (og_AboveRule : PySem.W.keepIn K (.ref O_AboveRule) = true)
    (oh_AboveRule : PySem.W.typeIn K (.ref O_AboveRule) = some (.type "type"))
    (oi_AboveRule : PySem.W.findIn K (.ref O_AboveRule) "__class__" = some (some (.builtin "object.__class__")))
    (oj_AboveRule : PySem.W.mroIn K O_AboveRule (.type "object") = some true)
    {O_TurnRule : Addr}
    (oa_TurnRule : PySem.W.nsIn K mainGlobals "TurnRule" = some (some (.ref O_TurnRule)))
    (ob_TurnRule : PySem.W.plainGet K O_TurnRule Str.empty = true)
    (oc_TurnRule : PySem.W.hasDictIn K O_TurnRule = true)
    (od_TurnRule : PySem.W.plainOver K O_TurnRule = true)
    (oe_TurnRule : PySem.W.findIn K (.ref O_TurnRule) "__setattr__" = some (some (.builtin "object.__setattr__")))
    (of_TurnRule : PySem.W.makesIn K O_TurnRule = true)
    (og_TurnRule : PySem.W.keepIn K (.ref O_TurnRule) = true)
    (oh_TurnRule : PySem.W.typeIn K (.ref O_TurnRule) = some (.type "type"))
    (oi_TurnRule : PySem.W.findIn K (.ref O_TurnRule) "__class__" = some (some (.builtin "object.__class__")))
    (oj_TurnRule : PySem.W.mroIn K O_TurnRule (.type "object") = some true)
    {O_Grammar : Addr}
    (oa_Grammar : PySem.W.nsIn K mainGlobals "Grammar" = some (some (.ref O_Grammar)))
    (ob_Grammar : PySem.W.plainGet K O_Grammar Str.empty = true)
    (oc_Grammar : PySem.W.hasDictIn K O_Grammar = true)
    (od_Grammar : PySem.W.plainOver K O_Grammar = true)
    (oe_Grammar : PySem.W.findIn K (.ref O_Grammar) "__setattr__" = some (some (.builtin "object.__setattr__")))
    (of_Grammar : PySem.W.makesIn K O_Grammar = true)
    (og_Grammar : PySem.W.keepIn K (.ref O_Grammar) = true)
    (oh_Grammar : PySem.W.typeIn K (.ref O_Grammar) = some (.type "type"))
    (oi_Grammar : PySem.W.findIn K (.ref O_Grammar) "__class__" = some (some (.builtin "object.__class__")))
    (oj_Grammar : PySem.W.mroIn K O_Grammar (.type "object") = some true)
    (na_Rule_name : PySem.W.findIn K (.ref O_Rule) "name" = some none)
    (na_Rule_cost : PySem.W.findIn K (.ref O_Rule) "cost" = some none)
    {g_Rule_init : Addr} {god_Rule_init gan_Rule_init : Option Addr} {gsl_Rule_init : Array (Option Value)} {goc_Rule_init gkV_Rule_init gdc_Rule_init gpm_Rule_init gcd_Rule_init gct_Rule_init : Value}
    (ma_Rule_init : PySem.W.findIn K (.ref O_Rule) "__init__" = some (some (.ref g_Rule_init)))
    (ml_Rule_init : K.lookup g_Rule_init = some ⟨goc_Rule_init, god_Rule_init, .func (PySem.W.fnOf "__init__" "Rule.__init__" (defArgs s_Rule_init) (defBody s_Rule_init) (defScope s_Rule_init) .none gkV_Rule_init gdc_Rule_init gpm_Rule_init gan_Rule_init gcd_Rule_init gct_Rule_init), gsl_Rule_init⟩)
    (mc_Rule_init : PySem.W.codeIn K gcd_Rule_init "Rule.__init__" = true)
    (mk_Rule_init : PySem.W.keepIn K (.ref g_Rule_init) = true)
    (mf_Rule_init : PySem.W.isFn K (.ref g_Rule_init) = true)
    (na_CellRule_sign : PySem.W.findIn K (.ref O_CellRule) "sign" = some none)
    (na_CellRule_name : PySem.W.findIn K (.ref O_CellRule) "name" = some none)
    (na_CellRule_cost : PySem.W.findIn K (.ref O_CellRule) "cost" = some none)
    {g_CellRule_init : Addr} {god_CellRule_init gan_CellRule_init : Option Addr} {gsl_CellRule_init : Array (Option Value)} {goc_CellRule_init gkV_CellRule_init gdc_CellRule_init gpm_CellRule_init gcd_CellRule_init gct_CellRule_init : Value}
    (ma_CellRule_init : PySem.W.findIn K (.ref O_CellRule) "__init__" = some (some (.ref g_CellRule_init)))
    (ml_CellRule_init : K.lookup g_CellRule_init = some ⟨goc_CellRule_init, god_CellRule_init, .func (PySem.W.fnOf "__init__" "CellRule.__init__" (defArgs s_CellRule_init) (defBody s_CellRule_init) (defScope s_CellRule_init) .none gkV_CellRule_init gdc_CellRule_init gpm_CellRule_init gan_CellRule_init gcd_CellRule_init gct_CellRule_init), gsl_CellRule_init⟩)
    (mc_CellRule_init : PySem.W.codeIn K gcd_CellRule_init "CellRule.__init__" = true)
    (mk_CellRule_init : PySem.W.keepIn K (.ref g_CellRule_init) = true)
    (mf_CellRule_init : PySem.W.isFn K (.ref g_CellRule_init) = true)
    {g_CellRule_told : Addr} {god_CellRule_told gan_CellRule_told : Option Addr} {gsl_CellRule_told : Array (Option Value)} {goc_CellRule_told gkV_CellRule_told gdc_CellRule_told gpm_CellRule_told gcd_CellRule_told gct_CellRule_told : Value}
    (ma_CellRule_told : PySem.W.findIn K (.ref O_CellRule) "told" = some (some (.ref g_CellRule_told)))
    (ml_CellRule_told : K.lookup g_CellRule_told = some ⟨goc_CellRule_told, god_CellRule_told, .func (PySem.W.fnOf "told" "CellRule.told" (defArgs s_CellRule_told) (defBody s_CellRule_told) (defScope s_CellRule_told) .none gkV_CellRule_told gdc_CellRule_told gpm_CellRule_told gan_CellRule_told gcd_CellRule_told gct_CellRule_told), gsl_CellRule_told⟩)
    (mc_CellRule_told : PySem.W.codeIn K gcd_CellRule_told "CellRule.told" = true)
    (mk_CellRule_told : PySem.W.keepIn K (.ref g_CellRule_told) = true)
    (mf_CellRule_told : PySem.W.isFn K (.ref g_CellRule_told) = true)
    {g_Rule_parts : Addr} {god_Rule_parts gan_Rule_parts : Option Addr} {gsl_Rule_parts : Array (Option Value)} {goc_Rule_parts gkV_Rule_parts gdc_Rule_parts gpm_Rule_parts gcd_Rule_parts gct_Rule_parts : Value}
    (ma_CellRule_parts : PySem.W.findIn K (.ref O_CellRule) "parts" = some (some (.ref g_Rule_parts)))
    (ml_Rule_parts : K.lookup g_Rule_parts = some ⟨goc_Rule_parts, god_Rule_parts, .func (PySem.W.fnOf "parts" "Rule.parts" (defArgs s_Rule_parts) (defBody s_Rule_parts) (defScope s_Rule_parts) .none gkV_Rule_parts gdc_Rule_parts gpm_Rule_parts gan_Rule_parts gcd_Rule_parts gct_Rule_parts), gsl_Rule_parts⟩)
    (mc_Rule_parts : PySem.W.codeIn K gcd_Rule_parts "Rule.parts" = true)
    (mk_Rule_parts : PySem.W.keepIn K (.ref g_Rule_parts) = true)
    (mf_Rule_parts : PySem.W.isFn K (.ref g_Rule_parts) = true)
    {g_Rule_begun : Addr} {god_Rule_begun gan_Rule_begun : Option Addr} {gsl_Rule_begun : Array (Option Value)} {goc_Rule_begun gkV_Rule_begun gdc_Rule_begun gpm_Rule_begun gcd_Rule_begun gct_Rule_begun : Value}
    (ma_CellRule_begun : PySem.W.findIn K (.ref O_CellRule) "begun" = some (some (.ref g_Rule_begun)))
    (ml_Rule_begun : K.lookup g_Rule_begun = some ⟨goc_Rule_begun, god_Rule_begun, .func (PySem.W.fnOf "begun" "Rule.begun" (defArgs s_Rule_begun) (defBody s_Rule_begun) (defScope s_Rule_begun) .none gkV_Rule_begun gdc_Rule_begun gpm_Rule_begun gan_Rule_begun gcd_Rule_begun gct_Rule_begun), gsl_Rule_begun⟩)
    (mc_Rule_begun : PySem.W.codeIn K gcd_Rule_begun "Rule.begun" = true)
    (mk_Rule_begun : PySem.W.keepIn K (.ref g_Rule_begun) = true)
    (mf_Rule_begun : PySem.W.isFn K (.ref g_Rule_begun) = true)
    (na_BesideRule_one : PySem.W.findIn K (.ref O_BesideRule) "one" = some none)
    (na_BesideRule_other : PySem.W.findIn K (.ref O_BesideRule) "other" = some none)
    (na_BesideRule_name : PySem.W.findIn K (.ref O_BesideRule) "name" = some none)
    (na_BesideRule_cost : PySem.W.findIn K (.ref O_BesideRule) "cost" = some none)
    {g_BesideRule_init : Addr} {god_BesideRule_init gan_BesideRule_init : Option Addr} {gsl_BesideRule_init : Array (Option Value)} {goc_BesideRule_init gkV_BesideRule_init gdc_BesideRule_init gpm_BesideRule_init gcd_BesideRule_init gct_BesideRule_init : Value}
    (ma_BesideRule_init : PySem.W.findIn K (.ref O_BesideRule) "__init__" = some (some (.ref g_BesideRule_init)))
    (ml_BesideRule_init : K.lookup g_BesideRule_init = some ⟨goc_BesideRule_init, god_BesideRule_init, .func (PySem.W.fnOf "__init__" "BesideRule.__init__" (defArgs s_BesideRule_init) (defBody s_BesideRule_init) (defScope s_BesideRule_init) .none gkV_BesideRule_init gdc_BesideRule_init gpm_BesideRule_init gan_BesideRule_init gcd_BesideRule_init gct_BesideRule_init), gsl_BesideRule_init⟩)
    (mc_BesideRule_init : PySem.W.codeIn K gcd_BesideRule_init "BesideRule.__init__" = true)
    (mk_BesideRule_init : PySem.W.keepIn K (.ref g_BesideRule_init) = true)
    (mf_BesideRule_init : PySem.W.isFn K (.ref g_BesideRule_init) = true)
    {g_BesideRule_parts : Addr} {god_BesideRule_parts gan_BesideRule_parts : Option Addr} {gsl_BesideRule_parts : Array (Option Value)} {goc_BesideRule_parts gkV_BesideRule_parts gdc_BesideRule_parts gpm_BesideRule_parts gcd_BesideRule_parts gct_BesideRule_parts : Value}
    (ma_BesideRule_parts : PySem.W.findIn K (.ref O_BesideRule) "parts" = some (some (.ref g_BesideRule_parts)))
    (ml_BesideRule_parts : K.lookup g_BesideRule_parts = some ⟨goc_BesideRule_parts, god_BesideRule_parts, .func (PySem.W.fnOf "parts" "BesideRule.parts" (defArgs s_BesideRule_parts) (defBody s_BesideRule_parts) (defScope s_BesideRule_parts) .none gkV_BesideRule_parts gdc_BesideRule_parts gpm_BesideRule_parts gan_BesideRule_parts gcd_BesideRule_parts gct_BesideRule_parts), gsl_BesideRule_parts⟩)
    (mc_BesideRule_parts : PySem.W.codeIn K gcd_BesideRule_parts "BesideRule.parts" = true)
    (mk_BesideRule_parts : PySem.W.keepIn K (.ref g_BesideRule_parts) = true)
    (mf_BesideRule_parts : PySem.W.isFn K (.ref g_BesideRule_parts) = true)
    {g_BesideRule_told : Addr} {god_BesideRule_told gan_BesideRule_told : Option Addr} {gsl_BesideRule_told : Array (Option Value)} {goc_BesideRule_told gkV_BesideRule_told gdc_BesideRule_told gpm_BesideRule_told gcd_BesideRule_told gct_BesideRule_told : Value}
    (ma_BesideRule_told : PySem.W.findIn K (.ref O_BesideRule) "told" = some (some (.ref g_BesideRule_told)))
    (ml_BesideRule_told : K.lookup g_BesideRule_told = some ⟨goc_BesideRule_told, god_BesideRule_told, .func (PySem.W.fnOf "told" "BesideRule.told" (defArgs s_BesideRule_told) (defBody s_BesideRule_told) (defScope s_BesideRule_told) .none gkV_BesideRule_told gdc_BesideRule_told gpm_BesideRule_told gan_BesideRule_told gcd_BesideRule_told gct_BesideRule_told), gsl_BesideRule_told⟩)
    (mc_BesideRule_told : PySem.W.codeIn K gcd_BesideRule_told "BesideRule.told" = true)
    (mk_BesideRule_told : PySem.W.keepIn K (.ref g_BesideRule_told) = true)
    (mf_BesideRule_told : PySem.W.isFn K (.ref g_BesideRule_told) = true)
    (ma_BesideRule_begun : PySem.W.findIn K (.ref O_BesideRule) "begun" = some (some (.ref g_Rule_begun)))
    (na_AboveRule_one : PySem.W.findIn K (.ref O_AboveRule) "one" = some none)
    (na_AboveRule_other : PySem.W.findIn K (.ref O_AboveRule) "other" = some none)
    (na_AboveRule_name : PySem.W.findIn K (.ref O_AboveRule) "name" = some none)
    (na_AboveRule_cost : PySem.W.findIn K (.ref O_AboveRule) "cost" = some none)
    {g_AboveRule_init : Addr} {god_AboveRule_init gan_AboveRule_init : Option Addr} {gsl_AboveRule_init : Array (Option Value)} {goc_AboveRule_init gkV_AboveRule_init gdc_AboveRule_init gpm_AboveRule_init gcd_AboveRule_init gct_AboveRule_init : Value}
    (ma_AboveRule_init : PySem.W.findIn K (.ref O_AboveRule) "__init__" = some (some (.ref g_AboveRule_init)))
    (ml_AboveRule_init : K.lookup g_AboveRule_init = some ⟨goc_AboveRule_init, god_AboveRule_init, .func (PySem.W.fnOf "__init__" "AboveRule.__init__" (defArgs s_AboveRule_init) (defBody s_AboveRule_init) (defScope s_AboveRule_init) .none gkV_AboveRule_init gdc_AboveRule_init gpm_AboveRule_init gan_AboveRule_init gcd_AboveRule_init gct_AboveRule_init), gsl_AboveRule_init⟩)
    (mc_AboveRule_init : PySem.W.codeIn K gcd_AboveRule_init "AboveRule.__init__" = true)
    (mk_AboveRule_init : PySem.W.keepIn K (.ref g_AboveRule_init) = true)
    (mf_AboveRule_init : PySem.W.isFn K (.ref g_AboveRule_init) = true)
    {g_AboveRule_parts : Addr} {god_AboveRule_parts gan_AboveRule_parts : Option Addr} {gsl_AboveRule_parts : Array (Option Value)} {goc_AboveRule_parts gkV_AboveRule_parts gdc_AboveRule_parts gpm_AboveRule_parts gcd_AboveRule_parts gct_AboveRule_parts : Value}
    (ma_AboveRule_parts : PySem.W.findIn K (.ref O_AboveRule) "parts" = some (some (.ref g_AboveRule_parts)))
    (ml_AboveRule_parts : K.lookup g_AboveRule_parts = some ⟨goc_AboveRule_parts, god_AboveRule_parts, .func (PySem.W.fnOf "parts" "AboveRule.parts" (defArgs s_AboveRule_parts) (defBody s_AboveRule_parts) (defScope s_AboveRule_parts) .none gkV_AboveRule_parts gdc_AboveRule_parts gpm_AboveRule_parts gan_AboveRule_parts gcd_AboveRule_parts gct_AboveRule_parts), gsl_AboveRule_parts⟩)
    (mc_AboveRule_parts : PySem.W.codeIn K gcd_AboveRule_parts "AboveRule.parts" = true)
    (mk_AboveRule_parts : PySem.W.keepIn K (.ref g_AboveRule_parts) = true)
    (mf_AboveRule_parts : PySem.W.isFn K (.ref g_AboveRule_parts) = true)
    {g_AboveRule_told : Addr} {god_AboveRule_told gan_AboveRule_told : Option Addr} {gsl_AboveRule_told : Array (Option Value)} {goc_AboveRule_told gkV_AboveRule_told gdc_AboveRule_told gpm_AboveRule_told gcd_AboveRule_told gct_AboveRule_told : Value}
    (ma_AboveRule_told : PySem.W.findIn K (.ref O_AboveRule) "told" = some (some (.ref g_AboveRule_told)))
    (ml_AboveRule_told : K.lookup g_AboveRule_told = some ⟨goc_AboveRule_told, god_AboveRule_told, .func (PySem.W.fnOf "told" "AboveRule.told" (defArgs s_AboveRule_told) (defBody s_AboveRule_told) (defScope s_AboveRule_told) .none gkV_AboveRule_told gdc_AboveRule_told gpm_AboveRule_told gan_AboveRule_told gcd_AboveRule_told gct_AboveRule_told), gsl_AboveRule_told⟩)
    (mc_AboveRule_told : PySem.W.codeIn K gcd_AboveRule_told "AboveRule.told" = true)
    (mk_AboveRule_told : PySem.W.keepIn K (.ref g_AboveRule_told) = true)
    (mf_AboveRule_told : PySem.W.isFn K (.ref g_AboveRule_told) = true)
    (ma_AboveRule_begun : PySem.W.findIn K (.ref O_AboveRule) "begun" = some (some (.ref g_Rule_begun)))
    (na_TurnRule_part : PySem.W.findIn K (.ref O_TurnRule) "part" = some none)
    (na_TurnRule_turning : PySem.W.findIn K (.ref O_TurnRule) "turning" = some none)
    (na_TurnRule_name : PySem.W.findIn K (.ref O_TurnRule) "name" = some none)
    (na_TurnRule_cost : PySem.W.findIn K (.ref O_TurnRule) "cost" = some none)
    {g_TurnRule_init : Addr} {god_TurnRule_init gan_TurnRule_init : Option Addr} {gsl_TurnRule_init : Array (Option Value)} {goc_TurnRule_init gkV_TurnRule_init gdc_TurnRule_init gpm_TurnRule_init gcd_TurnRule_init gct_TurnRule_init : Value}
    (ma_TurnRule_init : PySem.W.findIn K (.ref O_TurnRule) "__init__" = some (some (.ref g_TurnRule_init)))
    (ml_TurnRule_init : K.lookup g_TurnRule_init = some ⟨goc_TurnRule_init, god_TurnRule_init, .func (PySem.W.fnOf "__init__" "TurnRule.__init__" (defArgs s_TurnRule_init) (defBody s_TurnRule_init) (defScope s_TurnRule_init) .none gkV_TurnRule_init gdc_TurnRule_init gpm_TurnRule_init gan_TurnRule_init gcd_TurnRule_init gct_TurnRule_init), gsl_TurnRule_init⟩)
    (mc_TurnRule_init : PySem.W.codeIn K gcd_TurnRule_init "TurnRule.__init__" = true)
    (mk_TurnRule_init : PySem.W.keepIn K (.ref g_TurnRule_init) = true)
    (mf_TurnRule_init : PySem.W.isFn K (.ref g_TurnRule_init) = true)
    {g_TurnRule_parts : Addr} {god_TurnRule_parts gan_TurnRule_parts : Option Addr} {gsl_TurnRule_parts : Array (Option Value)} {goc_TurnRule_parts gkV_TurnRule_parts gdc_TurnRule_parts gpm_TurnRule_parts gcd_TurnRule_parts gct_TurnRule_parts : Value}
    (ma_TurnRule_parts : PySem.W.findIn K (.ref O_TurnRule) "parts" = some (some (.ref g_TurnRule_parts)))
    (ml_TurnRule_parts : K.lookup g_TurnRule_parts = some ⟨goc_TurnRule_parts, god_TurnRule_parts, .func (PySem.W.fnOf "parts" "TurnRule.parts" (defArgs s_TurnRule_parts) (defBody s_TurnRule_parts) (defScope s_TurnRule_parts) .none gkV_TurnRule_parts gdc_TurnRule_parts gpm_TurnRule_parts gan_TurnRule_parts gcd_TurnRule_parts gct_TurnRule_parts), gsl_TurnRule_parts⟩)
    (mc_TurnRule_parts : PySem.W.codeIn K gcd_TurnRule_parts "TurnRule.parts" = true)
    (mk_TurnRule_parts : PySem.W.keepIn K (.ref g_TurnRule_parts) = true)
    (mf_TurnRule_parts : PySem.W.isFn K (.ref g_TurnRule_parts) = true)
    {g_TurnRule_told : Addr} {god_TurnRule_told gan_TurnRule_told : Option Addr} {gsl_TurnRule_told : Array (Option Value)} {goc_TurnRule_told gkV_TurnRule_told gdc_TurnRule_told gpm_TurnRule_told gcd_TurnRule_told gct_TurnRule_told : Value}
    (ma_TurnRule_told : PySem.W.findIn K (.ref O_TurnRule) "told" = some (some (.ref g_TurnRule_told)))
    (ml_TurnRule_told : K.lookup g_TurnRule_told = some ⟨goc_TurnRule_told, god_TurnRule_told, .func (PySem.W.fnOf "told" "TurnRule.told" (defArgs s_TurnRule_told) (defBody s_TurnRule_told) (defScope s_TurnRule_told) .none gkV_TurnRule_told gdc_TurnRule_told gpm_TurnRule_told gan_TurnRule_told gcd_TurnRule_told gct_TurnRule_told), gsl_TurnRule_told⟩)
    (mc_TurnRule_told : PySem.W.codeIn K gcd_TurnRule_told "TurnRule.told" = true)
    (mk_TurnRule_told : PySem.W.keepIn K (.ref g_TurnRule_told) = true)
    (mf_TurnRule_told : PySem.W.isFn K (.ref g_TurnRule_told) = true)
    (ma_TurnRule_begun : PySem.W.findIn K (.ref O_TurnRule) "begun" = some (some (.ref g_Rule_begun)))
    (na_Grammar_signs : PySem.W.findIn K (.ref O_Grammar) "signs" = some none)
    (na_Grammar_start : PySem.W.findIn K (.ref O_Grammar) "start" = some none)
    (na_Grammar_kept_rules : PySem.W.findIn K (.ref O_Grammar) "kept_rules" = some none)
    (na_Grammar_kept_names : PySem.W.findIn K (.ref O_Grammar) "kept_names" = some none)
    {g_Grammar_init : Addr} {god_Grammar_init gan_Grammar_init : Option Addr} {gsl_Grammar_init : Array (Option Value)} {goc_Grammar_init gkV_Grammar_init gdc_Grammar_init gpm_Grammar_init gcd_Grammar_init gct_Grammar_init : Value}
    (ma_Grammar_init : PySem.W.findIn K (.ref O_Grammar) "__init__" = some (some (.ref g_Grammar_init)))
    (ml_Grammar_init : K.lookup g_Grammar_init = some ⟨goc_Grammar_init, god_Grammar_init, .func (PySem.W.fnOf "__init__" "Grammar.__init__" (defArgs s_Grammar_init) (defBody s_Grammar_init) (defScope s_Grammar_init) .none gkV_Grammar_init gdc_Grammar_init gpm_Grammar_init gan_Grammar_init gcd_Grammar_init gct_Grammar_init), gsl_Grammar_init⟩)
    (mc_Grammar_init : PySem.W.codeIn K gcd_Grammar_init "Grammar.__init__" = true)
    (mk_Grammar_init : PySem.W.keepIn K (.ref g_Grammar_init) = true)
    (mf_Grammar_init : PySem.W.isFn K (.ref g_Grammar_init) = true)
    {g_Grammar_many : Addr} {god_Grammar_many gan_Grammar_many : Option Addr} {gsl_Grammar_many : Array (Option Value)} {goc_Grammar_many gkV_Grammar_many gdc_Grammar_many gpm_Grammar_many gcd_Grammar_many gct_Grammar_many : Value}
    (ma_Grammar_many : PySem.W.findIn K (.ref O_Grammar) "many" = some (some (.ref g_Grammar_many)))
    (ml_Grammar_many : K.lookup g_Grammar_many = some ⟨goc_Grammar_many, god_Grammar_many, .func (PySem.W.fnOf "many" "Grammar.many" (defArgs s_Grammar_many) (defBody s_Grammar_many) (defScope s_Grammar_many) .none gkV_Grammar_many gdc_Grammar_many gpm_Grammar_many gan_Grammar_many gcd_Grammar_many gct_Grammar_many), gsl_Grammar_many⟩)
    (mc_Grammar_many : PySem.W.codeIn K gcd_Grammar_many "Grammar.many" = true)
    (mk_Grammar_many : PySem.W.keepIn K (.ref g_Grammar_many) = true)
    (mf_Grammar_many : PySem.W.isFn K (.ref g_Grammar_many) = true)
    {g_Grammar_told : Addr} {god_Grammar_told gan_Grammar_told : Option Addr} {gsl_Grammar_told : Array (Option Value)} {goc_Grammar_told gkV_Grammar_told gdc_Grammar_told gpm_Grammar_told gcd_Grammar_told gct_Grammar_told : Value}
    (ma_Grammar_told : PySem.W.findIn K (.ref O_Grammar) "told" = some (some (.ref g_Grammar_told)))
    (ml_Grammar_told : K.lookup g_Grammar_told = some ⟨goc_Grammar_told, god_Grammar_told, .func (PySem.W.fnOf "told" "Grammar.told" (defArgs s_Grammar_told) (defBody s_Grammar_told) (defScope s_Grammar_told) .none gkV_Grammar_told gdc_Grammar_told gpm_Grammar_told gan_Grammar_told gcd_Grammar_told gct_Grammar_told), gsl_Grammar_told⟩)
    (mc_Grammar_told : PySem.W.codeIn K gcd_Grammar_told "Grammar.told" = true)
    (mk_Grammar_told : PySem.W.keepIn K (.ref g_Grammar_told) = true)
    (mf_Grammar_told : PySem.W.isFn K (.ref g_Grammar_told) = true)
    (ia_Rule : PySem.W.specialIn K (.ref O_Rule) "__getattribute__" = some (some (.builtin "type.__getattribute__")))
    (ib_Rule : PySem.W.readsIn K O_Rule (.type "type") = true)
    (ic_Rule : PySem.W.findCls K (.ref O_Rule) (.type "type") "__init__" = some (.val (.ref g_Rule_init)))
    (ou_CellRule_CellRule : PySem.W.subIn K (.ref O_CellRule) (.ref O_CellRule) = some true)
    (ou_CellRule_Grammar : PySem.W.subIn K (.ref O_CellRule) (.ref O_Grammar) = some false)
    (ov_CellRule_Grammar : ¬ O_CellRule = O_Grammar)
    (ou_BesideRule_CellRule : PySem.W.subIn K (.ref O_BesideRule) (.ref O_CellRule) = some false)
    (ov_BesideRule_CellRule : ¬ O_BesideRule = O_CellRule)
    (ou_BesideRule_Grammar : PySem.W.subIn K (.ref O_BesideRule) (.ref O_Grammar) = some false)
    (ov_BesideRule_Grammar : ¬ O_BesideRule = O_Grammar)
    (ou_AboveRule_CellRule : PySem.W.subIn K (.ref O_AboveRule) (.ref O_CellRule) = some false)
    (ov_AboveRule_CellRule : ¬ O_AboveRule = O_CellRule)
    (ou_AboveRule_Grammar : PySem.W.subIn K (.ref O_AboveRule) (.ref O_Grammar) = some false)
    (ov_AboveRule_Grammar : ¬ O_AboveRule = O_Grammar)
    (ou_TurnRule_CellRule : PySem.W.subIn K (.ref O_TurnRule) (.ref O_CellRule) = some false)
    (ov_TurnRule_CellRule : ¬ O_TurnRule = O_CellRule)
    (ou_TurnRule_Grammar : PySem.W.subIn K (.ref O_TurnRule) (.ref O_Grammar) = some false)
    (ov_TurnRule_Grammar : ¬ O_TurnRule = O_Grammar)
    (ou_Grammar_CellRule : PySem.W.subIn K (.ref O_Grammar) (.ref O_CellRule) = some false)
    (ov_Grammar_CellRule : ¬ O_Grammar = O_CellRule)
    (ou_Grammar_Grammar : PySem.W.subIn K (.ref O_Grammar) (.ref O_Grammar) = some true)
    {f_wall : Addr} {od_wall an_wall : Option Addr} {sl_wall : Array (Option Value)} {oc_wall kV_wall dc_wall pm_wall cd_wall ct_wall : Value} (a_wall : PySem.W.nsIn K mainGlobals "_wall" = some (some (.ref f_wall))) (l_wall : K.lookup f_wall = some ⟨oc_wall, od_wall, .func (PySem.W.fnOf "_wall" "_wall" (defArgs s_wall) (defBody s_wall) (defScope s_wall) .none kV_wall dc_wall pm_wall an_wall cd_wall ct_wall), sl_wall⟩) (c_wall : PySem.W.codeIn K cd_wall "_wall" = true) (k_wall : PySem.W.keepIn K (.ref f_wall) = true)
    {f_beside : Addr} {od_beside an_beside : Option Addr} {sl_beside : Array (Option Value)} {oc_beside kV_beside dc_beside pm_beside cd_beside ct_beside : Value} (a_beside : PySem.W.nsIn K mainGlobals "beside" = some (some (.ref f_beside))) (l_beside : K.lookup f_beside = some ⟨oc_beside, od_beside, .func (PySem.W.fnOf "beside" "beside" (defArgs s_beside) (defBody s_beside) (defScope s_beside) .none kV_beside dc_beside pm_beside an_beside cd_beside ct_beside), sl_beside⟩) (c_beside : PySem.W.codeIn K cd_beside "beside" = true) (k_beside : PySem.W.keepIn K (.ref f_beside) = true)
    {f_above : Addr} {od_above an_above : Option Addr} {sl_above : Array (Option Value)} {oc_above kV_above dc_above pm_above cd_above ct_above : Value} (a_above : PySem.W.nsIn K mainGlobals "above" = some (some (.ref f_above))) (l_above : K.lookup f_above = some ⟨oc_above, od_above, .func (PySem.W.fnOf "above" "above" (defArgs s_above) (defBody s_above) (defScope s_above) .none kV_above dc_above pm_above an_above cd_above ct_above), sl_above⟩) (c_above : PySem.W.codeIn K cd_above "above" = true) (k_above : PySem.W.keepIn K (.ref f_above) = true)
    {f_quarter : Addr} {od_quarter an_quarter : Option Addr} {sl_quarter : Array (Option Value)} {oc_quarter kV_quarter dc_quarter pm_quarter cd_quarter ct_quarter : Value} (a_quarter : PySem.W.nsIn K mainGlobals "quarter" = some (some (.ref f_quarter))) (l_quarter : K.lookup f_quarter = some ⟨oc_quarter, od_quarter, .func (PySem.W.fnOf "quarter" "quarter" (defArgs s_quarter) (defBody s_quarter) (defScope s_quarter) .none kV_quarter dc_quarter pm_quarter an_quarter cd_quarter ct_quarter), sl_quarter⟩) (c_quarter : PySem.W.codeIn K cd_quarter "quarter" = true) (k_quarter : PySem.W.keepIn K (.ref f_quarter) = true)
    {f_mirrored : Addr} {od_mirrored an_mirrored : Option Addr} {sl_mirrored : Array (Option Value)} {oc_mirrored kV_mirrored dc_mirrored pm_mirrored cd_mirrored ct_mirrored : Value} (a_mirrored : PySem.W.nsIn K mainGlobals "mirrored" = some (some (.ref f_mirrored))) (l_mirrored : K.lookup f_mirrored = some ⟨oc_mirrored, od_mirrored, .func (PySem.W.fnOf "mirrored" "mirrored" (defArgs s_mirrored) (defBody s_mirrored) (defScope s_mirrored) .none kV_mirrored dc_mirrored pm_mirrored an_mirrored cd_mirrored ct_mirrored), sl_mirrored⟩) (c_mirrored : PySem.W.codeIn K cd_mirrored "mirrored" = true) (k_mirrored : PySem.W.keepIn K (.ref f_mirrored) = true)
    {f_turned : Addr} {od_turned an_turned : Option Addr} {sl_turned : Array (Option Value)} {oc_turned kV_turned dc_turned pm_turned cd_turned ct_turned : Value} (a_turned : PySem.W.nsIn K mainGlobals "turned" = some (some (.ref f_turned))) (l_turned : K.lookup f_turned = some ⟨oc_turned, od_turned, .func (PySem.W.fnOf "turned" "turned" (defArgs s_turned) (defBody s_turned) (defScope s_turned) .none kV_turned dc_turned pm_turned an_turned cd_turned ct_turned), sl_turned⟩) (c_turned : PySem.W.codeIn K cd_turned "turned" = true) (k_turned : PySem.W.keepIn K (.ref f_turned) = true)
    {f_after : Addr} {od_after an_after : Option Addr} {sl_after : Array (Option Value)} {oc_after kV_after dc_after pm_after cd_after ct_after : Value} (a_after : PySem.W.nsIn K mainGlobals "after" = some (some (.ref f_after))) (l_after : K.lookup f_after = some ⟨oc_after, od_after, .func (PySem.W.fnOf "after" "after" (defArgs s_after) (defBody s_after) (defScope s_after) .none kV_after dc_after pm_after an_after cd_after ct_after), sl_after⟩) (c_after : PySem.W.codeIn K cd_after "after" = true) (k_after : PySem.W.keepIn K (.ref f_after) = true)
    {f_back : Addr} {od_back an_back : Option Addr} {sl_back : Array (Option Value)} {oc_back kV_back dc_back pm_back cd_back ct_back : Value} (a_back : PySem.W.nsIn K mainGlobals "back" = some (some (.ref f_back))) (l_back : K.lookup f_back = some ⟨oc_back, od_back, .func (PySem.W.fnOf "back" "back" (defArgs s_back) (defBody s_back) (defScope s_back) .none kV_back dc_back pm_back an_back cd_back ct_back), sl_back⟩) (c_back : PySem.W.codeIn K cd_back "back" = true) (k_back : PySem.W.keepIn K (.ref f_back) = true)
    {f_is_name : Addr} {od_is_name an_is_name : Option Addr} {sl_is_name : Array (Option Value)} {oc_is_name kV_is_name dc_is_name pm_is_name cd_is_name ct_is_name : Value} (a_is_name : PySem.W.nsIn K mainGlobals "is_name" = some (some (.ref f_is_name))) (l_is_name : K.lookup f_is_name = some ⟨oc_is_name, od_is_name, .func (PySem.W.fnOf "is_name" "is_name" (defArgs s_is_name) (defBody s_is_name) (defScope s_is_name) .none kV_is_name dc_is_name pm_is_name an_is_name cd_is_name ct_is_name), sl_is_name⟩) (c_is_name : PySem.W.codeIn K cd_is_name "is_name" = true) (k_is_name : PySem.W.keepIn K (.ref f_is_name) = true)
    {f_asked_name : Addr} {od_asked_name an_asked_name : Option Addr} {sl_asked_name : Array (Option Value)} {oc_asked_name kV_asked_name dc_asked_name pm_asked_name cd_asked_name ct_asked_name : Value} (a_asked_name : PySem.W.nsIn K mainGlobals "asked_name" = some (some (.ref f_asked_name))) (l_asked_name : K.lookup f_asked_name = some ⟨oc_asked_name, od_asked_name, .func (PySem.W.fnOf "asked_name" "asked_name" (defArgs s_asked_name) (defBody s_asked_name) (defScope s_asked_name) .none kV_asked_name dc_asked_name pm_asked_name an_asked_name cd_asked_name ct_asked_name), sl_asked_name⟩) (c_asked_name : PySem.W.codeIn K cd_asked_name "asked_name" = true) (k_asked_name : PySem.W.keepIn K (.ref f_asked_name) = true)
    {f_turned_pair : Addr} {od_turned_pair an_turned_pair : Option Addr} {sl_turned_pair : Array (Option Value)} {oc_turned_pair kV_turned_pair dc_turned_pair pm_turned_pair cd_turned_pair ct_turned_pair : Value} (a_turned_pair : PySem.W.nsIn K mainGlobals "turned_pair" = some (some (.ref f_turned_pair))) (l_turned_pair : K.lookup f_turned_pair = some ⟨oc_turned_pair, od_turned_pair, .func (PySem.W.fnOf "turned_pair" "turned_pair" (defArgs s_turned_pair) (defBody s_turned_pair) (defScope s_turned_pair) .none kV_turned_pair dc_turned_pair pm_turned_pair an_turned_pair cd_turned_pair ct_turned_pair), sl_turned_pair⟩) (c_turned_pair : PySem.W.codeIn K cd_turned_pair "turned_pair" = true) (k_turned_pair : PySem.W.keepIn K (.ref f_turned_pair) = true)
    {f_are_signs : Addr} {od_are_signs an_are_signs : Option Addr} {sl_are_signs : Array (Option Value)} {oc_are_signs kV_are_signs dc_are_signs pm_are_signs cd_are_signs ct_are_signs : Value} (a_are_signs : PySem.W.nsIn K mainGlobals "are_signs" = some (some (.ref f_are_signs))) (l_are_signs : K.lookup f_are_signs = some ⟨oc_are_signs, od_are_signs, .func (PySem.W.fnOf "are_signs" "are_signs" (defArgs s_are_signs) (defBody s_are_signs) (defScope s_are_signs) .none kV_are_signs dc_are_signs pm_are_signs an_are_signs cd_are_signs ct_are_signs), sl_are_signs⟩) (c_are_signs : PySem.W.codeIn K cd_are_signs "are_signs" = true) (k_are_signs : PySem.W.keepIn K (.ref f_are_signs) = true)
    {f_names_met : Addr} {od_names_met an_names_met : Option Addr} {sl_names_met : Array (Option Value)} {oc_names_met kV_names_met dc_names_met pm_names_met cd_names_met ct_names_met : Value} (a_names_met : PySem.W.nsIn K mainGlobals "names_met" = some (some (.ref f_names_met))) (l_names_met : K.lookup f_names_met = some ⟨oc_names_met, od_names_met, .func (PySem.W.fnOf "names_met" "names_met" (defArgs s_names_met) (defBody s_names_met) (defScope s_names_met) .none kV_names_met dc_names_met pm_names_met an_names_met cd_names_met ct_names_met), sl_names_met⟩) (c_names_met : PySem.W.codeIn K cd_names_met "names_met" = true) (k_names_met : PySem.W.keepIn K (.ref f_names_met) = true)
    {f_asked_rules : Addr} {od_asked_rules an_asked_rules : Option Addr} {sl_asked_rules : Array (Option Value)} {oc_asked_rules kV_asked_rules dc_asked_rules pm_asked_rules cd_asked_rules ct_asked_rules : Value} (a_asked_rules : PySem.W.nsIn K mainGlobals "asked_rules" = some (some (.ref f_asked_rules))) (l_asked_rules : K.lookup f_asked_rules = some ⟨oc_asked_rules, od_asked_rules, .func (PySem.W.fnOf "asked_rules" "asked_rules" (defArgs s_asked_rules) (defBody s_asked_rules) (defScope s_asked_rules) .none kV_asked_rules dc_asked_rules pm_asked_rules an_asked_rules cd_asked_rules ct_asked_rules), sl_asked_rules⟩) (c_asked_rules : PySem.W.codeIn K cd_asked_rules "asked_rules" = true) (k_asked_rules : PySem.W.keepIn K (.ref f_asked_rules) = true)
    {f_number_in : Addr} {od_number_in an_number_in : Option Addr} {sl_number_in : Array (Option Value)} {oc_number_in kV_number_in dc_number_in pm_number_in cd_number_in ct_number_in : Value} (a_number_in : PySem.W.nsIn K mainGlobals "number_in" = some (some (.ref f_number_in))) (l_number_in : K.lookup f_number_in = some ⟨oc_number_in, od_number_in, .func (PySem.W.fnOf "number_in" "number_in" (defArgs s_number_in) (defBody s_number_in) (defScope s_number_in) .none kV_number_in dc_number_in pm_number_in an_number_in cd_number_in ct_number_in), sl_number_in⟩) (c_number_in : PySem.W.codeIn K cd_number_in "number_in" = true) (k_number_in : PySem.W.keepIn K (.ref f_number_in) = true)
    {f_read_rule : Addr} {od_read_rule an_read_rule : Option Addr} {sl_read_rule : Array (Option Value)} {oc_read_rule kV_read_rule dc_read_rule pm_read_rule cd_read_rule ct_read_rule : Value} (a_read_rule : PySem.W.nsIn K mainGlobals "read_rule" = some (some (.ref f_read_rule))) (l_read_rule : K.lookup f_read_rule = some ⟨oc_read_rule, od_read_rule, .func (PySem.W.fnOf "read_rule" "read_rule" (defArgs s_read_rule) (defBody s_read_rule) (defScope s_read_rule) .none kV_read_rule dc_read_rule pm_read_rule an_read_rule cd_read_rule ct_read_rule), sl_read_rule⟩) (c_read_rule : PySem.W.codeIn K cd_read_rule "read_rule" = true) (k_read_rule : PySem.W.keepIn K (.ref f_read_rule) = true)
    {f_read_row : Addr} {od_read_row an_read_row : Option Addr} {sl_read_row : Array (Option Value)} {oc_read_row kV_read_row dc_read_row pm_read_row cd_read_row ct_read_row : Value} (a_read_row : PySem.W.nsIn K mainGlobals "read_row" = some (some (.ref f_read_row))) (l_read_row : K.lookup f_read_row = some ⟨oc_read_row, od_read_row, .func (PySem.W.fnOf "read_row" "read_row" (defArgs s_read_row) (defBody s_read_row) (defScope s_read_row) .none kV_read_row dc_read_row pm_read_row an_read_row cd_read_row ct_read_row), sl_read_row⟩) (c_read_row : PySem.W.codeIn K cd_read_row "read_row" = true) (k_read_row : PySem.W.keepIn K (.ref f_read_row) = true)
    {f_read_grammar : Addr} {od_read_grammar an_read_grammar : Option Addr} {sl_read_grammar : Array (Option Value)} {oc_read_grammar kV_read_grammar dc_read_grammar pm_read_grammar cd_read_grammar ct_read_grammar : Value} (a_read_grammar : PySem.W.nsIn K mainGlobals "read_grammar" = some (some (.ref f_read_grammar))) (l_read_grammar : K.lookup f_read_grammar = some ⟨oc_read_grammar, od_read_grammar, .func (PySem.W.fnOf "read_grammar" "read_grammar" (defArgs s_read_grammar) (defBody s_read_grammar) (defScope s_read_grammar) .none kV_read_grammar dc_read_grammar pm_read_grammar an_read_grammar cd_read_grammar ct_read_grammar), sl_read_grammar⟩) (c_read_grammar : PySem.W.codeIn K cd_read_grammar "read_grammar" = true) (k_read_grammar : PySem.W.keepIn K (.ref f_read_grammar) = true)
    {f_law_mix : Addr} {od_law_mix an_law_mix : Option Addr} {sl_law_mix : Array (Option Value)} {oc_law_mix kV_law_mix dc_law_mix pm_law_mix cd_law_mix ct_law_mix : Value} (a_law_mix : PySem.W.nsIn K mainGlobals "_law_mix" = some (some (.ref f_law_mix))) (l_law_mix : K.lookup f_law_mix = some ⟨oc_law_mix, od_law_mix, .func (PySem.W.fnOf "_law_mix" "_law_mix" (defArgs s_law_mix) (defBody s_law_mix) (defScope s_law_mix) .none kV_law_mix dc_law_mix pm_law_mix an_law_mix cd_law_mix ct_law_mix), sl_law_mix⟩) (c_law_mix : PySem.W.codeIn K cd_law_mix "_law_mix" = true) (k_law_mix : PySem.W.keepIn K (.ref f_law_mix) = true)
    {f_law_cell : Addr} {od_law_cell an_law_cell : Option Addr} {sl_law_cell : Array (Option Value)} {oc_law_cell kV_law_cell dc_law_cell pm_law_cell cd_law_cell ct_law_cell : Value} (a_law_cell : PySem.W.nsIn K mainGlobals "_law_cell" = some (some (.ref f_law_cell))) (l_law_cell : K.lookup f_law_cell = some ⟨oc_law_cell, od_law_cell, .func (PySem.W.fnOf "_law_cell" "_law_cell" (defArgs s_law_cell) (defBody s_law_cell) (defScope s_law_cell) .none kV_law_cell dc_law_cell pm_law_cell an_law_cell cd_law_cell ct_law_cell), sl_law_cell⟩) (c_law_cell : PySem.W.codeIn K cd_law_cell "_law_cell" = true) (k_law_cell : PySem.W.keepIn K (.ref f_law_cell) = true)
    {f_law_whole : Addr} {od_law_whole an_law_whole : Option Addr} {sl_law_whole : Array (Option Value)} {oc_law_whole kV_law_whole dc_law_whole pm_law_whole cd_law_whole ct_law_whole : Value} (a_law_whole : PySem.W.nsIn K mainGlobals "_law_whole" = some (some (.ref f_law_whole))) (l_law_whole : K.lookup f_law_whole = some ⟨oc_law_whole, od_law_whole, .func (PySem.W.fnOf "_law_whole" "_law_whole" (defArgs s_law_whole) (defBody s_law_whole) (defScope s_law_whole) .none kV_law_whole dc_law_whole pm_law_whole an_law_whole cd_law_whole ct_law_whole), sl_law_whole⟩) (c_law_whole : PySem.W.codeIn K cd_law_whole "_law_whole" = true) (k_law_whole : PySem.W.keepIn K (.ref f_law_whole) = true)
    {f_law_pool : Addr} {od_law_pool an_law_pool : Option Addr} {sl_law_pool : Array (Option Value)} {oc_law_pool kV_law_pool dc_law_pool pm_law_pool cd_law_pool ct_law_pool : Value} (a_law_pool : PySem.W.nsIn K mainGlobals "_law_pool" = some (some (.ref f_law_pool))) (l_law_pool : K.lookup f_law_pool = some ⟨oc_law_pool, od_law_pool, .func (PySem.W.fnOf "_law_pool" "_law_pool" (defArgs s_law_pool) (defBody s_law_pool) (defScope s_law_pool) .none kV_law_pool dc_law_pool pm_law_pool an_law_pool cd_law_pool ct_law_pool), sl_law_pool⟩) (c_law_pool : PySem.W.codeIn K cd_law_pool "_law_pool" = true) (k_law_pool : PySem.W.keepIn K (.ref f_law_pool) = true)
    {f_law_signs : Addr} {od_law_signs an_law_signs : Option Addr} {sl_law_signs : Array (Option Value)} {oc_law_signs kV_law_signs dc_law_signs pm_law_signs cd_law_signs ct_law_signs : Value} (a_law_signs : PySem.W.nsIn K mainGlobals "_law_signs" = some (some (.ref f_law_signs))) (l_law_signs : K.lookup f_law_signs = some ⟨oc_law_signs, od_law_signs, .func (PySem.W.fnOf "_law_signs" "_law_signs" (defArgs s_law_signs) (defBody s_law_signs) (defScope s_law_signs) .none kV_law_signs dc_law_signs pm_law_signs an_law_signs cd_law_signs ct_law_signs), sl_law_signs⟩) (c_law_signs : PySem.W.codeIn K cd_law_signs "_law_signs" = true) (k_law_signs : PySem.W.keepIn K (.ref f_law_signs) = true)
    {f_law_row : Addr} {od_law_row an_law_row : Option Addr} {sl_law_row : Array (Option Value)} {oc_law_row kV_law_row dc_law_row pm_law_row cd_law_row ct_law_row : Value} (a_law_row : PySem.W.nsIn K mainGlobals "_law_row" = some (some (.ref f_law_row))) (l_law_row : K.lookup f_law_row = some ⟨oc_law_row, od_law_row, .func (PySem.W.fnOf "_law_row" "_law_row" (defArgs s_law_row) (defBody s_law_row) (defScope s_law_row) .none kV_law_row dc_law_row pm_law_row an_law_row cd_law_row ct_law_row), sl_law_row⟩) (c_law_row : PySem.W.codeIn K cd_law_row "_law_row" = true) (k_law_row : PySem.W.keepIn K (.ref f_law_row) = true)
    {f_law_spoilt : Addr} {od_law_spoilt an_law_spoilt : Option Addr} {sl_law_spoilt : Array (Option Value)} {oc_law_spoilt kV_law_spoilt dc_law_spoilt pm_law_spoilt cd_law_spoilt ct_law_spoilt : Value} (a_law_spoilt : PySem.W.nsIn K mainGlobals "_law_spoilt" = some (some (.ref f_law_spoilt))) (l_law_spoilt : K.lookup f_law_spoilt = some ⟨oc_law_spoilt, od_law_spoilt, .func (PySem.W.fnOf "_law_spoilt" "_law_spoilt" (defArgs s_law_spoilt) (defBody s_law_spoilt) (defScope s_law_spoilt) .none kV_law_spoilt dc_law_spoilt pm_law_spoilt an_law_spoilt cd_law_spoilt ct_law_spoilt), sl_law_spoilt⟩) (c_law_spoilt : PySem.W.codeIn K cd_law_spoilt "_law_spoilt" = true) (k_law_spoilt : PySem.W.keepIn K (.ref f_law_spoilt) = true)
    {f_law_is_name : Addr} {od_law_is_name an_law_is_name : Option Addr} {sl_law_is_name : Array (Option Value)} {oc_law_is_name kV_law_is_name dc_law_is_name pm_law_is_name cd_law_is_name ct_law_is_name : Value} (a_law_is_name : PySem.W.nsIn K mainGlobals "_law_is_name" = some (some (.ref f_law_is_name))) (l_law_is_name : K.lookup f_law_is_name = some ⟨oc_law_is_name, od_law_is_name, .func (PySem.W.fnOf "_law_is_name" "_law_is_name" (defArgs s_law_is_name) (defBody s_law_is_name) (defScope s_law_is_name) .none kV_law_is_name dc_law_is_name pm_law_is_name an_law_is_name cd_law_is_name ct_law_is_name), sl_law_is_name⟩) (c_law_is_name : PySem.W.codeIn K cd_law_is_name "_law_is_name" = true) (k_law_is_name : PySem.W.keepIn K (.ref f_law_is_name) = true)
    {f_law_parts : Addr} {od_law_parts an_law_parts : Option Addr} {sl_law_parts : Array (Option Value)} {oc_law_parts kV_law_parts dc_law_parts pm_law_parts cd_law_parts ct_law_parts : Value} (a_law_parts : PySem.W.nsIn K mainGlobals "_law_parts" = some (some (.ref f_law_parts))) (l_law_parts : K.lookup f_law_parts = some ⟨oc_law_parts, od_law_parts, .func (PySem.W.fnOf "_law_parts" "_law_parts" (defArgs s_law_parts) (defBody s_law_parts) (defScope s_law_parts) .none kV_law_parts dc_law_parts pm_law_parts an_law_parts cd_law_parts ct_law_parts), sl_law_parts⟩) (c_law_parts : PySem.W.codeIn K cd_law_parts "_law_parts" = true) (k_law_parts : PySem.W.keepIn K (.ref f_law_parts) = true)
    {f_law_bad_row : Addr} {od_law_bad_row an_law_bad_row : Option Addr} {sl_law_bad_row : Array (Option Value)} {oc_law_bad_row kV_law_bad_row dc_law_bad_row pm_law_bad_row cd_law_bad_row ct_law_bad_row : Value} (a_law_bad_row : PySem.W.nsIn K mainGlobals "_law_bad_row" = some (some (.ref f_law_bad_row))) (l_law_bad_row : K.lookup f_law_bad_row = some ⟨oc_law_bad_row, od_law_bad_row, .func (PySem.W.fnOf "_law_bad_row" "_law_bad_row" (defArgs s_law_bad_row) (defBody s_law_bad_row) (defScope s_law_bad_row) .none kV_law_bad_row dc_law_bad_row pm_law_bad_row an_law_bad_row cd_law_bad_row ct_law_bad_row), sl_law_bad_row⟩) (c_law_bad_row : PySem.W.codeIn K cd_law_bad_row "_law_bad_row" = true) (k_law_bad_row : PySem.W.keepIn K (.ref f_law_bad_row) = true)
    {f_law_fault : Addr} {od_law_fault an_law_fault : Option Addr} {sl_law_fault : Array (Option Value)} {oc_law_fault kV_law_fault dc_law_fault pm_law_fault cd_law_fault ct_law_fault : Value} (a_law_fault : PySem.W.nsIn K mainGlobals "_law_fault" = some (some (.ref f_law_fault))) (l_law_fault : K.lookup f_law_fault = some ⟨oc_law_fault, od_law_fault, .func (PySem.W.fnOf "_law_fault" "_law_fault" (defArgs s_law_fault) (defBody s_law_fault) (defScope s_law_fault) .none kV_law_fault dc_law_fault pm_law_fault an_law_fault cd_law_fault ct_law_fault), sl_law_fault⟩) (c_law_fault : PySem.W.codeIn K cd_law_fault "_law_fault" = true) (k_law_fault : PySem.W.keepIn K (.ref f_law_fault) = true)
    {f_law_read : Addr} {od_law_read an_law_read : Option Addr} {sl_law_read : Array (Option Value)} {oc_law_read kV_law_read dc_law_read pm_law_read cd_law_read ct_law_read : Value} (a_law_read : PySem.W.nsIn K mainGlobals "_law_read" = some (some (.ref f_law_read))) (l_law_read : K.lookup f_law_read = some ⟨oc_law_read, od_law_read, .func (PySem.W.fnOf "_law_read" "_law_read" (defArgs s_law_read) (defBody s_law_read) (defScope s_law_read) .none kV_law_read dc_law_read pm_law_read an_law_read cd_law_read ct_law_read), sl_law_read⟩) (c_law_read : PySem.W.codeIn K cd_law_read "_law_read" = true) (k_law_read : PySem.W.keepIn K (.ref f_law_read) = true)
    : Txt K mg := ⟨PySem.W.mg_none_of X G zb_ValueError,
    PySem.W.mg_none_of X G zb_all,
    PySem.W.mg_none_of X G zb_any,
    PySem.W.mg_none_of X G zb_bool,
    PySem.W.mg_none_of X G zb_enumerate,
    PySem.W.mg_none_of X G zb_int,
    PySem.W.mg_none_of X G zb_isinstance,
    PySem.W.mg_none_of X G zb_len,
    PySem.W.mg_none_of X G zb_list,
    PySem.W.mg_none_of X G zb_range,
    PySem.W.mg_none_of X G zb_reversed,
    PySem.W.mg_none_of X G zb_set,
    PySem.W.mg_none_of X G zb_str,
    PySem.W.mg_none_of X G zb_zip,
    ⟨_, PySem.W.mg_of X G zc_MOST⟩,
    ⟨_, PySem.W.mg_of X G zc_MIRROR⟩,
    ⟨_, PySem.W.mg_of X G zc_CAPITALS⟩,
    ⟨_, PySem.W.mg_of X G zc_SMALL⟩,
    ⟨_, PySem.W.mg_of X G zc_MOST_LETTERS⟩,
    ⟨_, PySem.W.mg_of X G zc_MOST_COST⟩,
    ⟨_, PySem.W.mg_of X G zc_MOST_SIGNS⟩,
    ⟨_, PySem.W.mg_of X G zc_MOST_RULES⟩,
    ⟨_, PySem.W.mg_of X G zc_MOST_NAMES⟩,
    ⟨_, PySem.W.mg_of X G zc_COSTS⟩,
    ⟨_, PySem.W.mg_of X G zc_TURNINGS⟩,
    ⟨C_QuiltError, ⟨xa_QuiltError, xk_QuiltError, xt_QuiltError, xg_QuiltError, xh_QuiltError, xs_QuiltError, xd_QuiltError, xc_QuiltError, xn, xq, xm_QuiltError⟩, PySem.W.mg_of X G xa_QuiltError⟩,
    ⟨C_NoFit, ⟨xa_NoFit, xk_NoFit, xt_NoFit, xg_NoFit, xh_NoFit, xs_NoFit, xd_NoFit, xc_NoFit, xn, xq, xm_NoFit⟩, PySem.W.mg_of X G xa_NoFit⟩,
    ⟨C_NoRule, ⟨xa_NoRule, xk_NoRule, xt_NoRule, xg_NoRule, xh_NoRule, xs_NoRule, xd_NoRule, xc_NoRule, xn, xq, xm_NoRule⟩, PySem.W.mg_of X G xa_NoRule⟩,
    ⟨C_NoGrammar, ⟨xa_NoGrammar, xk_NoGrammar, xt_NoGrammar, xg_NoGrammar, xh_NoGrammar, xs_NoGrammar, xd_NoGrammar, xc_NoGrammar, xn, xq, xm_NoGrammar⟩, PySem.W.mg_of X G xa_NoGrammar⟩,
    ⟨C_NoText, ⟨xa_NoText, xk_NoText, xt_NoText, xg_NoText, xh_NoText, xs_NoText, xd_NoText, xc_NoText, xn, xq, xm_NoText⟩, PySem.W.mg_of X G xa_NoText⟩,
    XPlain.mk xa_NoRule xp_NoRule,
    XPlain.mk xa_NoFit xp_NoFit,
    ⟨C_NoGrammar, fI_NoGrammar, _, xa_NoGrammar, ⟨⟨_, _, _, _, _, _, _, _, _, _, _, _, _, _, _, xl_NoGrammar, xv_NoGrammar⟩, xw_NoGrammar, xs_NoGrammar, xt_NoGrammar, xk_NoGrammar⟩, xf_NoGrammar, xi_NoGrammar, xj_NoGrammar, fun_mk xo_NoGrammar xu_NoGrammar xz_NoGrammar, (fun_mk (st := s_NoGrammar_init) xo_NoGrammar xu_NoGrammar xz_NoGrammar).binds fun _ _ _ _ _ _ => ar2 fun _ _ => rfl⟩,
    ⟨C_NoText, fI_NoText, _, xa_NoText, ⟨⟨_, _, _, _, _, _, _, _, _, _, _, _, _, _, _, xl_NoText, xv_NoText⟩, xw_NoText, xs_NoText, xt_NoText, xk_NoText⟩, xf_NoText, xi_NoText, xj_NoText, fun_mk xo_NoText xu_NoText xz_NoText, (fun_mk (st := s_NoText_init) xo_NoText xu_NoText xz_NoText).binds fun _ _ _ _ _ _ => ar2 fun _ _ => rfl⟩,
    ⟨C_QuiltError, PySem.W.mg_of X G xa_QuiltError, qs_QuiltError, qr_QuiltError, qf_QuiltError⟩,
    XSub.mk xa_NoRule xa_NoRule xt_NoRule xs_NoRule xd_NoRule y_NoRule_NoRule (fun _ => rfl),
    XSub.mk xa_NoRule xa_QuiltError xt_QuiltError xs_QuiltError xd_QuiltError y_NoRule_QuiltError (fun _ => rfl),
    XSub.mk xa_NoRule xa_NoText xt_NoText xs_NoText xd_NoText y_NoRule_NoText (fun e => absurd e d_NoRule_NoText),
    XSub.mk xa_NoRule xa_NoGrammar xt_NoGrammar xs_NoGrammar xd_NoGrammar y_NoRule_NoGrammar (fun e => absurd e d_NoRule_NoGrammar),
    XSubT.mk (by decide +kernel) xa_NoRule y_NoRule_ValueError,
    XSub.mk xa_NoFit xa_NoRule xt_NoRule xs_NoRule xd_NoRule y_NoFit_NoRule (fun e => absurd e d_NoFit_NoRule),
    XSub.mk xa_NoFit xa_QuiltError xt_QuiltError xs_QuiltError xd_QuiltError y_NoFit_QuiltError (fun _ => rfl),
    XSub.mk xa_NoFit xa_NoText xt_NoText xs_NoText xd_NoText y_NoFit_NoText (fun e => absurd e d_NoFit_NoText),
    XSub.mk xa_NoFit xa_NoGrammar xt_NoGrammar xs_NoGrammar xd_NoGrammar y_NoFit_NoGrammar (fun e => absurd e d_NoFit_NoGrammar),
    XSubT.mk (by decide +kernel) xa_NoFit y_NoFit_ValueError,
    XSub.mk xa_NoGrammar xa_NoRule xt_NoRule xs_NoRule xd_NoRule y_NoGrammar_NoRule (fun e => absurd e d_NoGrammar_NoRule),
    XSub.mk xa_NoGrammar xa_QuiltError xt_QuiltError xs_QuiltError xd_QuiltError y_NoGrammar_QuiltError (fun _ => rfl),
    XSub.mk xa_NoGrammar xa_NoText xt_NoText xs_NoText xd_NoText y_NoGrammar_NoText (fun e => absurd e d_NoGrammar_NoText),
    XSub.mk xa_NoGrammar xa_NoGrammar xt_NoGrammar xs_NoGrammar xd_NoGrammar y_NoGrammar_NoGrammar (fun _ => rfl),
    XSubT.mk (by decide +kernel) xa_NoGrammar y_NoGrammar_ValueError,
    XSub.mk xa_NoText xa_NoRule xt_NoRule xs_NoRule xd_NoRule y_NoText_NoRule (fun e => absurd e d_NoText_NoRule),
    XSub.mk xa_NoText xa_QuiltError xt_QuiltError xs_QuiltError xd_QuiltError y_NoText_QuiltError (fun _ => rfl),
    XSub.mk xa_NoText xa_NoText xt_NoText xs_NoText xd_NoText y_NoText_NoText (fun _ => rfl),
    XSub.mk xa_NoText xa_NoGrammar xt_NoGrammar xs_NoGrammar xd_NoGrammar y_NoText_NoGrammar (fun e => absurd e d_NoText_NoGrammar),
    XSubT.mk (by decide +kernel) xa_NoText y_NoText_ValueError,
    ⟨O_Rule, ⟨oa_Rule, ⟨ob_Rule, oc_Rule, od_Rule, oe_Rule⟩, of_Rule, og_Rule, oh_Rule, oi_Rule, xn, xq, oj_Rule⟩, PySem.W.mg_of X G oa_Rule⟩,
    ⟨O_CellRule, ⟨oa_CellRule, ⟨ob_CellRule, oc_CellRule, od_CellRule, oe_CellRule⟩, of_CellRule, og_CellRule, oh_CellRule, oi_CellRule, xn, xq, oj_CellRule⟩, PySem.W.mg_of X G oa_CellRule⟩,
    ⟨O_BesideRule, ⟨oa_BesideRule, ⟨ob_BesideRule, oc_BesideRule, od_BesideRule, oe_BesideRule⟩, of_BesideRule, og_BesideRule, oh_BesideRule, oi_BesideRule, xn, xq, oj_BesideRule⟩, PySem.W.mg_of X G oa_BesideRule⟩,
    ⟨O_AboveRule, ⟨oa_AboveRule, ⟨ob_AboveRule, oc_AboveRule, od_AboveRule, oe_AboveRule⟩, of_AboveRule, og_AboveRule, oh_AboveRule, oi_AboveRule, xn, xq, oj_AboveRule⟩, PySem.W.mg_of X G oa_AboveRule⟩,
    ⟨O_TurnRule, ⟨oa_TurnRule, ⟨ob_TurnRule, oc_TurnRule, od_TurnRule, oe_TurnRule⟩, of_TurnRule, og_TurnRule, oh_TurnRule, oi_TurnRule, xn, xq, oj_TurnRule⟩, PySem.W.mg_of X G oa_TurnRule⟩,
    ⟨O_Grammar, ⟨oa_Grammar, ⟨ob_Grammar, oc_Grammar, od_Grammar, oe_Grammar⟩, of_Grammar, og_Grammar, oh_Grammar, oi_Grammar, xn, xq, oj_Grammar⟩, PySem.W.mg_of X G oa_Grammar⟩,
    fun D e => ns_one oa_Rule e ▸ na_Rule_name,
    fun D e => ns_one oa_Rule e ▸ na_Rule_cost,
    ⟨O_Rule, g_Rule_init, _, oa_Rule, ⟨ma_Rule_init, mf_Rule_init, mk_Rule_init⟩, fun_mk ml_Rule_init mc_Rule_init mk_Rule_init, (fun_mk (st := s_Rule_init) ml_Rule_init mc_Rule_init mk_Rule_init).binds fun _ _ _ _ _ _ => ar3 fun _ _ _ => rfl⟩,
    fun D e => ns_one oa_CellRule e ▸ na_CellRule_sign,
    fun D e => ns_one oa_CellRule e ▸ na_CellRule_name,
    fun D e => ns_one oa_CellRule e ▸ na_CellRule_cost,
    ⟨O_CellRule, g_CellRule_init, _, oa_CellRule, ⟨ma_CellRule_init, mf_CellRule_init, mk_CellRule_init⟩, fun_mk ml_CellRule_init mc_CellRule_init mk_CellRule_init, (fun_mk (st := s_CellRule_init) ml_CellRule_init mc_CellRule_init mk_CellRule_init).binds fun _ _ _ _ _ _ => ar4 fun _ _ _ _ => rfl⟩,
    ⟨O_CellRule, g_CellRule_told, _, oa_CellRule, ⟨ma_CellRule_told, mf_CellRule_told, mk_CellRule_told⟩, fun_mk ml_CellRule_told mc_CellRule_told mk_CellRule_told, (fun_mk (st := s_CellRule_told) ml_CellRule_told mc_CellRule_told mk_CellRule_told).binds fun _ _ _ _ _ _ => ar1 fun _ => rfl⟩,
    ⟨O_CellRule, g_Rule_parts, _, oa_CellRule, ⟨ma_CellRule_parts, mf_Rule_parts, mk_Rule_parts⟩, fun_mk ml_Rule_parts mc_Rule_parts mk_Rule_parts, (fun_mk (st := s_Rule_parts) ml_Rule_parts mc_Rule_parts mk_Rule_parts).binds fun _ _ _ _ _ _ => ar1 fun _ => rfl⟩,
    ⟨O_CellRule, g_Rule_begun, _, oa_CellRule, ⟨ma_CellRule_begun, mf_Rule_begun, mk_Rule_begun⟩, fun_mk ml_Rule_begun mc_Rule_begun mk_Rule_begun, (fun_mk (st := s_Rule_begun) ml_Rule_begun mc_Rule_begun mk_Rule_begun).binds fun _ _ _ _ _ _ => ar1 fun _ => rfl⟩,
    fun D e => ns_one oa_BesideRule e ▸ na_BesideRule_one,
    fun D e => ns_one oa_BesideRule e ▸ na_BesideRule_other,
    fun D e => ns_one oa_BesideRule e ▸ na_BesideRule_name,
    fun D e => ns_one oa_BesideRule e ▸ na_BesideRule_cost,
    ⟨O_BesideRule, g_BesideRule_init, _, oa_BesideRule, ⟨ma_BesideRule_init, mf_BesideRule_init, mk_BesideRule_init⟩, fun_mk ml_BesideRule_init mc_BesideRule_init mk_BesideRule_init, (fun_mk (st := s_BesideRule_init) ml_BesideRule_init mc_BesideRule_init mk_BesideRule_init).binds fun _ _ _ _ _ _ => ar5 fun _ _ _ _ _ => rfl⟩,
    ⟨O_BesideRule, g_BesideRule_parts, _, oa_BesideRule, ⟨ma_BesideRule_parts, mf_BesideRule_parts, mk_BesideRule_parts⟩, fun_mk ml_BesideRule_parts mc_BesideRule_parts mk_BesideRule_parts, (fun_mk (st := s_BesideRule_parts) ml_BesideRule_parts mc_BesideRule_parts mk_BesideRule_parts).binds fun _ _ _ _ _ _ => ar1 fun _ => rfl⟩,
    ⟨O_BesideRule, g_BesideRule_told, _, oa_BesideRule, ⟨ma_BesideRule_told, mf_BesideRule_told, mk_BesideRule_told⟩, fun_mk ml_BesideRule_told mc_BesideRule_told mk_BesideRule_told, (fun_mk (st := s_BesideRule_told) ml_BesideRule_told mc_BesideRule_told mk_BesideRule_told).binds fun _ _ _ _ _ _ => ar1 fun _ => rfl⟩,
    ⟨O_BesideRule, g_Rule_begun, _, oa_BesideRule, ⟨ma_BesideRule_begun, mf_Rule_begun, mk_Rule_begun⟩, fun_mk ml_Rule_begun mc_Rule_begun mk_Rule_begun, (fun_mk (st := s_Rule_begun) ml_Rule_begun mc_Rule_begun mk_Rule_begun).binds fun _ _ _ _ _ _ => ar1 fun _ => rfl⟩,
    fun D e => ns_one oa_AboveRule e ▸ na_AboveRule_one,
    fun D e => ns_one oa_AboveRule e ▸ na_AboveRule_other,
    fun D e => ns_one oa_AboveRule e ▸ na_AboveRule_name,
    fun D e => ns_one oa_AboveRule e ▸ na_AboveRule_cost,
    ⟨O_AboveRule, g_AboveRule_init, _, oa_AboveRule, ⟨ma_AboveRule_init, mf_AboveRule_init, mk_AboveRule_init⟩, fun_mk ml_AboveRule_init mc_AboveRule_init mk_AboveRule_init, (fun_mk (st := s_AboveRule_init) ml_AboveRule_init mc_AboveRule_init mk_AboveRule_init).binds fun _ _ _ _ _ _ => ar5 fun _ _ _ _ _ => rfl⟩,
    ⟨O_AboveRule, g_AboveRule_parts, _, oa_AboveRule, ⟨ma_AboveRule_parts, mf_AboveRule_parts, mk_AboveRule_parts⟩, fun_mk ml_AboveRule_parts mc_AboveRule_parts mk_AboveRule_parts, (fun_mk (st := s_AboveRule_parts) ml_AboveRule_parts mc_AboveRule_parts mk_AboveRule_parts).binds fun _ _ _ _ _ _ => ar1 fun _ => rfl⟩,
    ⟨O_AboveRule, g_AboveRule_told, _, oa_AboveRule, ⟨ma_AboveRule_told, mf_AboveRule_told, mk_AboveRule_told⟩, fun_mk ml_AboveRule_told mc_AboveRule_told mk_AboveRule_told, (fun_mk (st := s_AboveRule_told) ml_AboveRule_told mc_AboveRule_told mk_AboveRule_told).binds fun _ _ _ _ _ _ => ar1 fun _ => rfl⟩,
    ⟨O_AboveRule, g_Rule_begun, _, oa_AboveRule, ⟨ma_AboveRule_begun, mf_Rule_begun, mk_Rule_begun⟩, fun_mk ml_Rule_begun mc_Rule_begun mk_Rule_begun, (fun_mk (st := s_Rule_begun) ml_Rule_begun mc_Rule_begun mk_Rule_begun).binds fun _ _ _ _ _ _ => ar1 fun _ => rfl⟩,
    fun D e => ns_one oa_TurnRule e ▸ na_TurnRule_part,
    fun D e => ns_one oa_TurnRule e ▸ na_TurnRule_turning,
    fun D e => ns_one oa_TurnRule e ▸ na_TurnRule_name,
    fun D e => ns_one oa_TurnRule e ▸ na_TurnRule_cost,
    ⟨O_TurnRule, g_TurnRule_init, _, oa_TurnRule, ⟨ma_TurnRule_init, mf_TurnRule_init, mk_TurnRule_init⟩, fun_mk ml_TurnRule_init mc_TurnRule_init mk_TurnRule_init, (fun_mk (st := s_TurnRule_init) ml_TurnRule_init mc_TurnRule_init mk_TurnRule_init).binds fun _ _ _ _ _ _ => ar5 fun _ _ _ _ _ => rfl⟩,
    ⟨O_TurnRule, g_TurnRule_parts, _, oa_TurnRule, ⟨ma_TurnRule_parts, mf_TurnRule_parts, mk_TurnRule_parts⟩, fun_mk ml_TurnRule_parts mc_TurnRule_parts mk_TurnRule_parts, (fun_mk (st := s_TurnRule_parts) ml_TurnRule_parts mc_TurnRule_parts mk_TurnRule_parts).binds fun _ _ _ _ _ _ => ar1 fun _ => rfl⟩,
    ⟨O_TurnRule, g_TurnRule_told, _, oa_TurnRule, ⟨ma_TurnRule_told, mf_TurnRule_told, mk_TurnRule_told⟩, fun_mk ml_TurnRule_told mc_TurnRule_told mk_TurnRule_told, (fun_mk (st := s_TurnRule_told) ml_TurnRule_told mc_TurnRule_told mk_TurnRule_told).binds fun _ _ _ _ _ _ => ar1 fun _ => rfl⟩,
    ⟨O_TurnRule, g_Rule_begun, _, oa_TurnRule, ⟨ma_TurnRule_begun, mf_Rule_begun, mk_Rule_begun⟩, fun_mk ml_Rule_begun mc_Rule_begun mk_Rule_begun, (fun_mk (st := s_Rule_begun) ml_Rule_begun mc_Rule_begun mk_Rule_begun).binds fun _ _ _ _ _ _ => ar1 fun _ => rfl⟩,
    fun D e => ns_one oa_Grammar e ▸ na_Grammar_signs,
    fun D e => ns_one oa_Grammar e ▸ na_Grammar_start,
    fun D e => ns_one oa_Grammar e ▸ na_Grammar_kept_rules,
    fun D e => ns_one oa_Grammar e ▸ na_Grammar_kept_names,
    ⟨O_Grammar, g_Grammar_init, _, oa_Grammar, ⟨ma_Grammar_init, mf_Grammar_init, mk_Grammar_init⟩, fun_mk ml_Grammar_init mc_Grammar_init mk_Grammar_init, (fun_mk (st := s_Grammar_init) ml_Grammar_init mc_Grammar_init mk_Grammar_init).binds fun _ _ _ _ _ _ => ar4 fun _ _ _ _ => rfl⟩,
    ⟨O_Grammar, g_Grammar_many, _, oa_Grammar, ⟨ma_Grammar_many, mf_Grammar_many, mk_Grammar_many⟩, fun_mk ml_Grammar_many mc_Grammar_many mk_Grammar_many, (fun_mk (st := s_Grammar_many) ml_Grammar_many mc_Grammar_many mk_Grammar_many).binds fun _ _ _ _ _ _ => ar1 fun _ => rfl⟩,
    ⟨O_Grammar, g_Grammar_told, _, oa_Grammar, ⟨ma_Grammar_told, mf_Grammar_told, mk_Grammar_told⟩, fun_mk ml_Grammar_told mc_Grammar_told mk_Grammar_told, (fun_mk (st := s_Grammar_told) ml_Grammar_told mc_Grammar_told mk_Grammar_told).binds fun _ _ _ _ _ _ => ar1 fun _ => rfl⟩,
    CInit.mk oa_Rule ma_Rule_init ia_Rule ib_Rule ic_Rule,
    OSub.mk oa_CellRule oa_CellRule oh_CellRule oc_CellRule ou_CellRule_CellRule (fun _ => rfl),
    OSub.mk oa_CellRule oa_Grammar oh_Grammar oc_Grammar ou_CellRule_Grammar (fun e => absurd e ov_CellRule_Grammar),
    OSub.mk oa_BesideRule oa_CellRule oh_CellRule oc_CellRule ou_BesideRule_CellRule (fun e => absurd e ov_BesideRule_CellRule),
    OSub.mk oa_BesideRule oa_Grammar oh_Grammar oc_Grammar ou_BesideRule_Grammar (fun e => absurd e ov_BesideRule_Grammar),
    OSub.mk oa_AboveRule oa_CellRule oh_CellRule oc_CellRule ou_AboveRule_CellRule (fun e => absurd e ov_AboveRule_CellRule),
    OSub.mk oa_AboveRule oa_Grammar oh_Grammar oc_Grammar ou_AboveRule_Grammar (fun e => absurd e ov_AboveRule_Grammar),
    OSub.mk oa_TurnRule oa_CellRule oh_CellRule oc_CellRule ou_TurnRule_CellRule (fun e => absurd e ov_TurnRule_CellRule),
    OSub.mk oa_TurnRule oa_Grammar oh_Grammar oc_Grammar ou_TurnRule_Grammar (fun e => absurd e ov_TurnRule_Grammar),
    OSub.mk oa_Grammar oa_CellRule oh_CellRule oc_CellRule ou_Grammar_CellRule (fun e => absurd e ov_Grammar_CellRule),
    OSub.mk oa_Grammar oa_Grammar oh_Grammar oc_Grammar ou_Grammar_Grammar (fun _ => rfl),
    df_of X G a_wall l_wall c_wall k_wall fun _ _ _ _ _ _ => ar1 fun _ => rfl,
    df_of X G a_beside l_beside c_beside k_beside fun _ _ _ _ _ _ => ar2 fun _ _ => rfl,
    df_of X G a_above l_above c_above k_above fun _ _ _ _ _ _ => ar2 fun _ _ => rfl,
    df_of X G a_quarter l_quarter c_quarter k_quarter fun _ _ _ _ _ _ => ar1 fun _ => rfl,
    df_of X G a_mirrored l_mirrored c_mirrored k_mirrored fun _ _ _ _ _ _ => ar1 fun _ => rfl,
    df_of X G a_turned l_turned c_turned k_turned fun _ _ _ _ _ _ => ar2 fun _ _ => rfl,
    df_of X G a_after l_after c_after k_after fun _ _ _ _ _ _ => ar2 fun _ _ => rfl,
    df_of X G a_back l_back c_back k_back fun _ _ _ _ _ _ => ar1 fun _ => rfl,
    df_of X G a_is_name l_is_name c_is_name k_is_name fun _ _ _ _ _ _ => ar1 fun _ => rfl,
    df_of X G a_asked_name l_asked_name c_asked_name k_asked_name fun _ _ _ _ _ _ => ar1 fun _ => rfl,
    df_of X G a_turned_pair l_turned_pair c_turned_pair k_turned_pair fun _ _ _ _ _ _ => ar4 fun _ _ _ _ => rfl,
    df_of X G a_are_signs l_are_signs c_are_signs k_are_signs fun _ _ _ _ _ _ => ar1 fun _ => rfl,
    df_of X G a_names_met l_names_met c_names_met k_names_met fun _ _ _ _ _ _ => ar2 fun _ _ => rfl,
    df_of X G a_asked_rules l_asked_rules c_asked_rules k_asked_rules fun _ _ _ _ _ _ => ar2 fun _ _ => rfl,
    df_of X G a_number_in l_number_in c_number_in k_number_in fun _ _ _ _ _ _ => ar2 fun _ _ => rfl,
    df_of X G a_read_rule l_read_rule c_read_rule k_read_rule fun _ _ _ _ _ _ => ar1 fun _ => rfl,
    df_of X G a_read_row l_read_row c_read_row k_read_row fun _ _ _ _ _ _ => ar2 fun _ _ => rfl,
    df_of X G a_read_grammar l_read_grammar c_read_grammar k_read_grammar fun _ _ _ _ _ _ => ar1 fun _ => rfl,
    df_of X G a_law_mix l_law_mix c_law_mix k_law_mix fun _ _ _ _ _ _ => ar2 fun _ _ => rfl,
    df_of X G a_law_cell l_law_cell c_law_cell k_law_cell fun _ _ _ _ _ _ => ar2 fun _ _ => rfl,
    df_of X G a_law_whole l_law_whole c_law_whole k_law_whole fun _ _ _ _ _ _ => ar1 fun _ => rfl,
    df_of X G a_law_pool l_law_pool c_law_pool k_law_pool fun _ _ _ _ _ _ => ar2 fun _ _ => rfl,
    df_of X G a_law_signs l_law_signs c_law_signs k_law_signs fun _ _ _ _ _ _ => ar1 fun _ => rfl,
    df_of X G a_law_row l_law_row c_law_row k_law_row fun _ _ _ _ _ _ => ar3 fun _ _ _ => rfl,
    df_of X G a_law_spoilt l_law_spoilt c_law_spoilt k_law_spoilt fun _ _ _ _ _ _ => ar2 fun _ _ => rfl,
    df_of X G a_law_is_name l_law_is_name c_law_is_name k_law_is_name fun _ _ _ _ _ _ => ar1 fun _ => rfl,
    df_of X G a_law_parts l_law_parts c_law_parts k_law_parts fun _ _ _ _ _ _ => ar1 fun _ => rfl,
    df_of X G a_law_bad_row l_law_bad_row c_law_bad_row k_law_bad_row fun _ _ _ _ _ _ => ar1 fun _ => rfl,
    df_of X G a_law_fault l_law_fault c_law_fault k_law_fault fun _ _ _ _ _ _ => ar1 fun _ => rfl,
    df_of X G a_law_read l_law_read c_law_read k_law_read fun _ _ _ _ _ _ => ar1 fun _ => rfl⟩
theorem all_mk {l : PySem.W.OpenLaw} {w : World} {K : PySem.W.Frag} {h : Heap} {mg : Str → Option Value} {fa : Addr} (X : K.In h) (G : h.Ns mainGlobals mg) (hfa : mg "law" = some (.ref fa)) (T : Txt K mg)
    {f_law : Addr} {od_law an_law : Option Addr} {sl_law : Array (Option Value)} {oc_law kV_law dc_law pm_law cd_law ct_law : Value} (a_law : PySem.W.nsIn K mainGlobals "law" = some (some (.ref f_law))) (l_law : K.lookup f_law = some ⟨oc_law, od_law, .func (PySem.W.fnOf "law" "law" (defArgs s_law) (defBody s_law) (defScope s_law) .none kV_law dc_law pm_law an_law cd_law ct_law), sl_law⟩) (c_law : PySem.W.codeIn K cd_law "law" = true) (k_law : PySem.W.keepIn K (.ref f_law) = true) :
    ∃ fd : FuncData, (∀ (s : Shared) (v : Value), BindsTo s fd ⟨[v], []⟩ [("_law_script", v)]) ∧ ∀ base : Heap, K.In base → base.Ns mainGlobals mg → FnOk l.prog w K mg base (L2.CX l.prog w) 21 fa fd ["_law_script"] (spOf K lawS) := by
  have e := hfa.symm.trans (PySem.W.mg_of X G a_law)
  cases e
  exact ⟨PySem.W.fnOf "law" "law" (defArgs s_law) (defBody s_law) (defScope s_law) .none kV_law dc_law pm_law an_law cd_law ct_law, fun s v => .of_eq rfl, fun base _ _ => law_fn (fun_mk l_law c_law k_law) sc_law (body_law T)⟩
end Law
namespace Hd
open PySem PySem.W PyProof.Rows
theorem split3 {S A B C : Type} {x : Option S} {f : S → A} {g : S → B} {h : S → C} {a : A} {b : B} {c : C} (h1 : x.map f = some a) (h2 : x.map g = some b) (h3 : x.map h = some c) : x.map (fun s => (f s, g s, h s)) = some (a, b, c) := by
  cases x with
  | none => cases h1
  | some s => cases h1; cases h2; cases h3; rfl
noncomputable abbrev pr := PySem.Challenge.rw_quiltlaw_k13_grammar_read.row.prog
noncomputable abbrev qq : Program := view pr [59]
noncomputable abbrev lo : List PySem.Str := ([PySem.Str.ofString "_wall", PySem.Str.ofString "QuiltError", PySem.Str.ofString "NoFit", PySem.Str.ofString "NoRule", PySem.Str.ofString "NoGrammar", PySem.Str.ofString "NoText", PySem.Str.ofString "MOST", PySem.Str.ofString "beside", PySem.Str.ofString "above", PySem.Str.ofString "MIRROR", PySem.Str.ofString "quarter", PySem.Str.ofString "mirrored", PySem.Str.ofString "turned", PySem.Str.ofString "after", PySem.Str.ofString "back", PySem.Str.ofString "CAPITALS", PySem.Str.ofString "SMALL", PySem.Str.ofString "MOST_LETTERS", PySem.Str.ofString "MOST_COST", PySem.Str.ofString "is_name", PySem.Str.ofString "asked_name", PySem.Str.ofString "Rule", PySem.Str.ofString "CellRule", PySem.Str.ofString "turned_pair", PySem.Str.ofString "BesideRule", PySem.Str.ofString "AboveRule", PySem.Str.ofString "TurnRule", PySem.Str.ofString "MOST_SIGNS", PySem.Str.ofString "MOST_RULES", PySem.Str.ofString "MOST_NAMES"] : List PySem.Str) ++ ([PySem.Str.ofString "are_signs", PySem.Str.ofString "names_met", PySem.Str.ofString "asked_rules", PySem.Str.ofString "Grammar", PySem.Str.ofString "COSTS", PySem.Str.ofString "TURNINGS", PySem.Str.ofString "number_in", PySem.Str.ofString "read_rule", PySem.Str.ofString "read_row", PySem.Str.ofString "read_grammar", PySem.Str.ofString "_law_mix", PySem.Str.ofString "_law_cell", PySem.Str.ofString "_law_whole", PySem.Str.ofString "_law_pool", PySem.Str.ofString "_law_signs", PySem.Str.ofString "_law_row", PySem.Str.ofString "_law_spoilt", PySem.Str.ofString "_law_is_name", PySem.Str.ofString "_law_parts", PySem.Str.ofString "_law_bad_row", PySem.Str.ofString "_law_fault", PySem.Str.ofString "_law_read"] : List PySem.Str)
noncomputable def st : Stmt := pr.main.body.getD 59 (.Pass ⟨0, 0, 0, 0⟩)
noncomputable def posOf : Stmt → Pos
  | .FunctionDef _ _ _ _ _ _ _ _ _ p => p
  | _ => ⟨0, 0, 0, 0⟩
noncomputable abbrev ld : DefRec := ⟨"law", L2.defArgs st, L2.defBody st, L2.defScope st, posOf st⟩
theorem run_looks (w : World) (os : OsState) : (HeadRun.endF (HeadRun.stepQ (HeadRun.denQ HeadRun.tabQ) pr w) 20000 pr w os).map (fun s => HeadRun.looksF pr (boot_heap w.params) s.abs) = some true := by kernel_rfl
theorem run_seen (w : World) (os : OsState) : (HeadRun.endF (HeadRun.stepQ (HeadRun.denQ HeadRun.tabQ) pr w) 20000 pr w os).map (fun s => HeadRun.seenQ qq lo (importedModules pr.main.body) (fun s => xlAt qq [] s && recOk PySem.Challenge.rw_quiltlaw_k13_grammar_read.row.records s) s.abs) = some (openGood qq lo) := by kernel_rfl
end Hd
open PySem PySem.W PyProof.Rows
set_option hygiene false in
local macro_rules | `(tactic| o_head $H) => `(tactic| (
  refine PySem.W.holds_open (q := Hd.qq) (loose := Hd.lo) (d := Hd.ld) (kwd := []) (Xt := fun s => xlAt Hd.qq [] s && recOk PySem.Challenge.rw_quiltlaw_k13_grammar_read.row.records s) (XP := XL Hd.qq []) (Yf := Hook.obs $H) (Ya := Hook.val $H) (YP := Hook.says $H) (N := 21000) ?hl (Hook.of $H) (Hook.keeps $H) (fun s e => xl_of s (Bool.and_eq_true_iff.mp e).1) XL.keeps (by kernel_rfl) (by kernel_rfl) (by kernel_rfl) (fun s e => recFacts_of (Bool.and_eq_true_iff.mp e).2) (by rfl) (by first | assumption | decide +kernel) (by decide +kernel) ⟨rfl, rfl, rfl, rfl, rfl, by decide +kernel⟩ ?hw ?hc
  case hl =>
    refine HeadRun.left_oneK (M := 20000) (by kernel_rfl) (by rfl) (fun s => by kernel_rfl) (by rfl) ?_
    intro w os
    with_reducible refine Hd.split3 ?_ ?_ ?_
    · exact Eq.mpr (by kernel_rfl) (Hd.run_looks w os)
    · exact Eq.mpr (by kernel_rfl) (Hd.run_seen w os)
    · kernel_rfl))
open PySem PySem.W PyProof.Rows
set_option maxRecDepth 100000 in
set_option maxHeartbeats 0 in
theorem PySem.Challenge.cw_quiltlaw_k13_grammar_read_holds : PySem.Challenge.rw_quiltlaw_k13_grammar_read.Holds := by
  w_on; o_law; k_head; (case hw => w_witness2)
  k_fill
  refine L2.walk_of (l := PySem.Challenge.rw_quiltlaw_k13_grammar_read) (n := 63) (k := 21) (x := "_law_script") (CX := fun w => L2.CX PySem.Challenge.rw_quiltlaw_k13_grammar_read.prog w) (sp := fun w => Tw.spOf _ Tw.lawS) rfl (by decide) rfl ⟨rfl, by decide, by decide⟩ (fun w h Y => PySem.W.kIn_of Y) ?F (fun _ H a ns hl _ hS => Tw.law_sp _ H a ns hl hS) (fun w H s e s' => Tw.hCX0 _ w H s e s')
  case F =>
    intro w mg fa h KX G hmg
    refine' Law.all_mk KX G hmg (Law.txt_mk KX G ?zb_ValueError ?zb_all ?zb_any ?zb_bool ?zb_enumerate ?zb_int ?zb_isinstance ?zb_len ?zb_list ?zb_range ?zb_reversed ?zb_set ?zb_str ?zb_zip ?zc_MOST ?zc_MIRROR ?zc_CAPITALS ?zc_SMALL ?zc_MOST_LETTERS ?zc_MOST_COST ?zc_MOST_SIGNS ?zc_MOST_RULES ?zc_MOST_NAMES ?zc_COSTS ?zc_TURNINGS ?xn ?xq ?xa_QuiltError ?xk_QuiltError ?xt_QuiltError ?xg_QuiltError ?xh_QuiltError ?xs_QuiltError ?xd_QuiltError ?xc_QuiltError ?xm_QuiltError ?xa_NoFit ?xk_NoFit ?xt_NoFit ?xg_NoFit ?xh_NoFit ?xs_NoFit ?xd_NoFit ?xc_NoFit ?xm_NoFit ?xa_NoRule ?xk_NoRule ?xt_NoRule ?xg_NoRule ?xh_NoRule ?xs_NoRule ?xd_NoRule ?xc_NoRule ?xm_NoRule ?xa_NoGrammar ?xk_NoGrammar ?xt_NoGrammar ?xg_NoGrammar ?xh_NoGrammar ?xs_NoGrammar ?xd_NoGrammar ?xc_NoGrammar ?xm_NoGrammar ?xa_NoText ?xk_NoText ?xt_NoText ?xg_NoText ?xh_NoText ?xs_NoText ?xd_NoText ?xc_NoText ?xm_NoText ?xp_NoRule ?xp_NoFit ?xl_NoGrammar ?xv_NoGrammar ?xw_NoGrammar ?xf_NoGrammar ?xi_NoGrammar ?xj_NoGrammar ?xo_NoGrammar ?xu_NoGrammar ?xz_NoGrammar ?xl_NoText ?xv_NoText ?xw_NoText ?xf_NoText ?xi_NoText ?xj_NoText ?xo_NoText ?xu_NoText ?xz_NoText ?qs_QuiltError ?qr_QuiltError ?qf_QuiltError ?y_NoRule_NoRule ?y_NoRule_QuiltError ?y_NoRule_NoText ?d_NoRule_NoText ?y_NoRule_NoGrammar ?d_NoRule_NoGrammar ?y_NoRule_ValueError ?y_NoFit_NoRule ?d_NoFit_NoRule ?y_NoFit_QuiltError ?y_NoFit_NoText ?d_NoFit_NoText ?y_NoFit_NoGrammar ?d_NoFit_NoGrammar ?y_NoFit_ValueError ?y_NoGrammar_NoRule ?d_NoGrammar_NoRule ?y_NoGrammar_QuiltError ?y_NoGrammar_NoText ?d_NoGrammar_NoText ?y_NoGrammar_NoGrammar ?y_NoGrammar_ValueError ?y_NoText_NoRule ?d_NoText_NoRule ?y_NoText_QuiltError ?y_NoText_NoText ?y_NoText_NoGrammar ?d_NoText_NoGrammar ?y_NoText_ValueError ?oa_Rule ?ob_Rule ?oc_Rule ?od_Rule ?oe_Rule ?of_Rule ?og_Rule ?oh_Rule ?oi_Rule ?oj_Rule ?oa_CellRule ?ob_CellRule ?oc_CellRule ?od_CellRule ?oe_CellRule ?of_CellRule ?og_CellRule ?oh_CellRule ?oi_CellRule ?oj_CellRule ?oa_BesideRule ?ob_BesideRule ?oc_BesideRule ?od_BesideRule ?oe_BesideRule ?of_BesideRule ?og_BesideRule ?oh_BesideRule ?oi_BesideRule ?oj_BesideRule ?oa_AboveRule ?ob_AboveRule ?oc_AboveRule ?od_AboveRule ?oe_AboveRule ?of_AboveRule ?og_AboveRule ?oh_AboveRule ?oi_AboveRule ?oj_AboveRule ?oa_TurnRule ?ob_TurnRule ?oc_TurnRule ?od_TurnRule ?oe_TurnRule ?of_TurnRule ?og_TurnRule ?oh_TurnRule ?oi_TurnRule ?oj_TurnRule ?oa_Grammar ?ob_Grammar ?oc_Grammar ?od_Grammar ?oe_Grammar ?of_Grammar ?og_Grammar ?oh_Grammar ?oi_Grammar ?oj_Grammar ?na_Rule_name ?na_Rule_cost ?ma_Rule_init ?ml_Rule_init ?mc_Rule_init ?mk_Rule_init ?mf_Rule_init ?na_CellRule_sign ?na_CellRule_name ?na_CellRule_cost ?ma_CellRule_init ?ml_CellRule_init ?mc_CellRule_init ?mk_CellRule_init ?mf_CellRule_init ?ma_CellRule_told ?ml_CellRule_told ?mc_CellRule_told ?mk_CellRule_told ?mf_CellRule_told ?ma_CellRule_parts ?ml_Rule_parts ?mc_Rule_parts ?mk_Rule_parts ?mf_Rule_parts ?ma_CellRule_begun ?ml_Rule_begun ?mc_Rule_begun ?mk_Rule_begun ?mf_Rule_begun ?na_BesideRule_one ?na_BesideRule_other ?na_BesideRule_name ?na_BesideRule_cost ?ma_BesideRule_init ?ml_BesideRule_init ?mc_BesideRule_init ?mk_BesideRule_init ?mf_BesideRule_init ?ma_BesideRule_parts ?ml_BesideRule_parts ?mc_BesideRule_parts ?mk_BesideRule_parts ?mf_BesideRule_parts ?ma_BesideRule_told ?ml_BesideRule_told ?mc_BesideRule_told ?mk_BesideRule_told ?mf_BesideRule_told ?ma_BesideRule_begun ?na_AboveRule_one ?na_AboveRule_other ?na_AboveRule_name ?na_AboveRule_cost ?ma_AboveRule_init ?ml_AboveRule_init ?mc_AboveRule_init ?mk_AboveRule_init ?mf_AboveRule_init ?ma_AboveRule_parts ?ml_AboveRule_parts ?mc_AboveRule_parts ?mk_AboveRule_parts ?mf_AboveRule_parts ?ma_AboveRule_told ?ml_AboveRule_told ?mc_AboveRule_told ?mk_AboveRule_told ?mf_AboveRule_told ?ma_AboveRule_begun ?na_TurnRule_part ?na_TurnRule_turning ?na_TurnRule_name ?na_TurnRule_cost ?ma_TurnRule_init ?ml_TurnRule_init ?mc_TurnRule_init ?mk_TurnRule_init ?mf_TurnRule_init ?ma_TurnRule_parts ?ml_TurnRule_parts ?mc_TurnRule_parts ?mk_TurnRule_parts ?mf_TurnRule_parts ?ma_TurnRule_told ?ml_TurnRule_told ?mc_TurnRule_told ?mk_TurnRule_told ?mf_TurnRule_told ?ma_TurnRule_begun ?na_Grammar_signs ?na_Grammar_start ?na_Grammar_kept_rules ?na_Grammar_kept_names ?ma_Grammar_init ?ml_Grammar_init ?mc_Grammar_init ?mk_Grammar_init ?mf_Grammar_init ?ma_Grammar_many ?ml_Grammar_many ?mc_Grammar_many ?mk_Grammar_many ?mf_Grammar_many ?ma_Grammar_told ?ml_Grammar_told ?mc_Grammar_told ?mk_Grammar_told ?mf_Grammar_told ?ia_Rule ?ib_Rule ?ic_Rule ?ou_CellRule_CellRule ?ou_CellRule_Grammar ?ov_CellRule_Grammar ?ou_BesideRule_CellRule ?ov_BesideRule_CellRule ?ou_BesideRule_Grammar ?ov_BesideRule_Grammar ?ou_AboveRule_CellRule ?ov_AboveRule_CellRule ?ou_AboveRule_Grammar ?ov_AboveRule_Grammar ?ou_TurnRule_CellRule ?ov_TurnRule_CellRule ?ou_TurnRule_Grammar ?ov_TurnRule_Grammar ?ou_Grammar_CellRule ?ov_Grammar_CellRule ?ou_Grammar_Grammar ?a_wall ?l_wall ?c_wall ?k_wall ?a_beside ?l_beside ?c_beside ?k_beside ?a_above ?l_above ?c_above ?k_above ?a_quarter ?l_quarter ?c_quarter ?k_quarter ?a_mirrored ?l_mirrored ?c_mirrored ?k_mirrored ?a_turned ?l_turned ?c_turned ?k_turned ?a_after ?l_after ?c_after ?k_after ?a_back ?l_back ?c_back ?k_back ?a_is_name ?l_is_name ?c_is_name ?k_is_name ?a_asked_name ?l_asked_name ?c_asked_name ?k_asked_name ?a_turned_pair ?l_turned_pair ?c_turned_pair ?k_turned_pair ?a_are_signs ?l_are_signs ?c_are_signs ?k_are_signs ?a_names_met ?l_names_met ?c_names_met ?k_names_met ?a_asked_rules ?l_asked_rules ?c_asked_rules ?k_asked_rules ?a_number_in ?l_number_in ?c_number_in ?k_number_in ?a_read_rule ?l_read_rule ?c_read_rule ?k_read_rule ?a_read_row ?l_read_row ?c_read_row ?k_read_row ?a_read_grammar ?l_read_grammar ?c_read_grammar ?k_read_grammar ?a_law_mix ?l_law_mix ?c_law_mix ?k_law_mix ?a_law_cell ?l_law_cell ?c_law_cell ?k_law_cell ?a_law_whole ?l_law_whole ?c_law_whole ?k_law_whole ?a_law_pool ?l_law_pool ?c_law_pool ?k_law_pool ?a_law_signs ?l_law_signs ?c_law_signs ?k_law_signs ?a_law_row ?l_law_row ?c_law_row ?k_law_row ?a_law_spoilt ?l_law_spoilt ?c_law_spoilt ?k_law_spoilt ?a_law_is_name ?l_law_is_name ?c_law_is_name ?k_law_is_name ?a_law_parts ?l_law_parts ?c_law_parts ?k_law_parts ?a_law_bad_row ?l_law_bad_row ?c_law_bad_row ?k_law_bad_row ?a_law_fault ?l_law_fault ?c_law_fault ?k_law_fault ?a_law_read ?l_law_read ?c_law_read ?k_law_read) ?a_law ?l_law ?c_law ?k_law
    (case zb_ValueError => k_is)
    (case zb_all => k_is)
    (case zb_any => k_is)
    (case zb_bool => k_is)
    (case zb_enumerate => k_is)
    (case zb_int => k_is)
    (case zb_isinstance => k_is)
    (case zb_len => k_is)
    (case zb_list => k_is)
    (case zb_range => k_is)
    (case zb_reversed => k_is)
    (case zb_set => k_is)
    (case zb_str => k_is)
    (case zb_zip => k_is)
    (case zc_MOST => k_is)
    (case zc_MIRROR => k_is)
    (case zc_CAPITALS => k_is)
    (case zc_SMALL => k_is)
    (case zc_MOST_LETTERS => k_is)
    (case zc_MOST_COST => k_is)
    (case zc_MOST_SIGNS => k_is)
    (case zc_MOST_RULES => k_is)
    (case zc_MOST_NAMES => k_is)
    (case zc_COSTS => k_is)
    (case zc_TURNINGS => k_is)
    (case xn => k_is)
    (case xq => k_is)
    (case xa_QuiltError => k_is)
    (case xk_QuiltError => k_is)
    (case xt_QuiltError => k_is)
    (case xg_QuiltError => k_is)
    (case xh_QuiltError => k_is)
    (case xs_QuiltError => k_is)
    (case xd_QuiltError => k_is)
    (case xc_QuiltError => k_is)
    (case xm_QuiltError => k_is)
    (case xa_NoFit => k_is)
    (case xk_NoFit => k_is)
    (case xt_NoFit => k_is)
    (case xg_NoFit => k_is)
    (case xh_NoFit => k_is)
    (case xs_NoFit => k_is)
    (case xd_NoFit => k_is)
    (case xc_NoFit => k_is)
    (case xm_NoFit => k_is)
    (case xa_NoRule => k_is)
    (case xk_NoRule => k_is)
    (case xt_NoRule => k_is)
    (case xg_NoRule => k_is)
    (case xh_NoRule => k_is)
    (case xs_NoRule => k_is)
    (case xd_NoRule => k_is)
    (case xc_NoRule => k_is)
    (case xm_NoRule => k_is)
    (case xa_NoGrammar => k_is)
    (case xk_NoGrammar => k_is)
    (case xt_NoGrammar => k_is)
    (case xg_NoGrammar => k_is)
    (case xh_NoGrammar => k_is)
    (case xs_NoGrammar => k_is)
    (case xd_NoGrammar => k_is)
    (case xc_NoGrammar => k_is)
    (case xm_NoGrammar => k_is)
    (case xa_NoText => k_is)
    (case xk_NoText => k_is)
    (case xt_NoText => k_is)
    (case xg_NoText => k_is)
    (case xh_NoText => k_is)
    (case xs_NoText => k_is)
    (case xd_NoText => k_is)
    (case xc_NoText => k_is)
    (case xm_NoText => k_is)
    (case xp_NoRule => k_exc)
    (case xp_NoFit => k_exc)
    (case xl_NoGrammar => k_is)
    (case xv_NoGrammar => decide +kernel)
    (case xw_NoGrammar => k_is)
    (case xf_NoGrammar => k_is)
    (case xi_NoGrammar => k_is)
    (case xj_NoGrammar => k_is)
    (case xo_NoGrammar => k_is)
    (case xu_NoGrammar => k_is)
    (case xz_NoGrammar => k_is)
    (case xl_NoText => k_is)
    (case xv_NoText => decide +kernel)
    (case xw_NoText => k_is)
    (case xf_NoText => k_is)
    (case xi_NoText => k_is)
    (case xj_NoText => k_is)
    (case xo_NoText => k_is)
    (case xu_NoText => k_is)
    (case xz_NoText => k_is)
    (case qs_QuiltError => k_is)
    (case qr_QuiltError => k_is)
    (case qf_QuiltError => k_is)
    (case y_NoRule_NoRule => k_is)
    (case y_NoRule_QuiltError => k_is)
    (case y_NoRule_NoText => k_is)
    (case d_NoRule_NoText => decide)
    (case y_NoRule_NoGrammar => k_is)
    (case d_NoRule_NoGrammar => decide)
    (case y_NoRule_ValueError => k_is)
    (case y_NoFit_NoRule => k_is)
    (case d_NoFit_NoRule => decide)
    (case y_NoFit_QuiltError => k_is)
    (case y_NoFit_NoText => k_is)
    (case d_NoFit_NoText => decide)
    (case y_NoFit_NoGrammar => k_is)
    (case d_NoFit_NoGrammar => decide)
    (case y_NoFit_ValueError => k_is)
    (case y_NoGrammar_NoRule => k_is)
    (case d_NoGrammar_NoRule => decide)
    (case y_NoGrammar_QuiltError => k_is)
    (case y_NoGrammar_NoText => k_is)
    (case d_NoGrammar_NoText => decide)
    (case y_NoGrammar_NoGrammar => k_is)
    (case y_NoGrammar_ValueError => k_is)
    (case y_NoText_NoRule => k_is)
    (case d_NoText_NoRule => decide)
    (case y_NoText_QuiltError => k_is)
    (case y_NoText_NoText => k_is)
    (case y_NoText_NoGrammar => k_is)
    (case d_NoText_NoGrammar => decide)
    (case y_NoText_ValueError => k_is)
    (case oa_Rule => k_is)
    (case ob_Rule => k_is)
    (case oc_Rule => k_is)
    (case od_Rule => k_is)
    (case oe_Rule => k_is)
    (case of_Rule => k_is)
    (case og_Rule => k_is)
    (case oh_Rule => k_is)
    (case oi_Rule => k_is)
    (case oj_Rule => k_is)
    (case oa_CellRule => k_is)
    (case ob_CellRule => k_is)
    (case oc_CellRule => k_is)
    (case od_CellRule => k_is)
    (case oe_CellRule => k_is)
    (case of_CellRule => k_is)
    (case og_CellRule => k_is)
    (case oh_CellRule => k_is)
    (case oi_CellRule => k_is)
    (case oj_CellRule => k_is)
    (case oa_BesideRule => k_is)
    (case ob_BesideRule => k_is)
    (case oc_BesideRule => k_is)
    (case od_BesideRule => k_is)
    (case oe_BesideRule => k_is)
    (case of_BesideRule => k_is)
    (case og_BesideRule => k_is)
    (case oh_BesideRule => k_is)
    (case oi_BesideRule => k_is)
    (case oj_BesideRule => k_is)
    (case oa_AboveRule => k_is)
    (case ob_AboveRule => k_is)
    (case oc_AboveRule => k_is)
    (case od_AboveRule => k_is)
    (case oe_AboveRule => k_is)
    (case of_AboveRule => k_is)
    (case og_AboveRule => k_is)
    (case oh_AboveRule => k_is)
    (case oi_AboveRule => k_is)
    (case oj_AboveRule => k_is)
    (case oa_TurnRule => k_is)
    (case ob_TurnRule => k_is)
    (case oc_TurnRule => k_is)
    (case od_TurnRule => k_is)
    (case oe_TurnRule => k_is)
    (case of_TurnRule => k_is)
    (case og_TurnRule => k_is)
    (case oh_TurnRule => k_is)
    (case oi_TurnRule => k_is)
    (case oj_TurnRule => k_is)
    (case oa_Grammar => k_is)
    (case ob_Grammar => k_is)
    (case oc_Grammar => k_is)
    (case od_Grammar => k_is)
    (case oe_Grammar => k_is)
    (case of_Grammar => k_is)
    (case og_Grammar => k_is)
    (case oh_Grammar => k_is)
    (case oi_Grammar => k_is)
    (case oj_Grammar => k_is)
    (case na_Rule_name => k_is)
    (case na_Rule_cost => k_is)
    (case ma_Rule_init => k_is)
    (case ml_Rule_init => k_is)
    (case mc_Rule_init => k_is)
    (case mk_Rule_init => k_is)
    (case mf_Rule_init => k_is)
    (case na_CellRule_sign => k_is)
    (case na_CellRule_name => k_is)
    (case na_CellRule_cost => k_is)
    (case ma_CellRule_init => k_is)
    (case ml_CellRule_init => k_is)
    (case mc_CellRule_init => k_is)
    (case mk_CellRule_init => k_is)
    (case mf_CellRule_init => k_is)
    (case ma_CellRule_told => k_is)
    (case ml_CellRule_told => k_is)
    (case mc_CellRule_told => k_is)
    (case mk_CellRule_told => k_is)
    (case mf_CellRule_told => k_is)
    (case ma_CellRule_parts => k_is)
    (case ml_Rule_parts => k_is)
    (case mc_Rule_parts => k_is)
    (case mk_Rule_parts => k_is)
    (case mf_Rule_parts => k_is)
    (case ma_CellRule_begun => k_is)
    (case ml_Rule_begun => k_is)
    (case mc_Rule_begun => k_is)
    (case mk_Rule_begun => k_is)
    (case mf_Rule_begun => k_is)
    (case na_BesideRule_one => k_is)
    (case na_BesideRule_other => k_is)
    (case na_BesideRule_name => k_is)
    (case na_BesideRule_cost => k_is)
    (case ma_BesideRule_init => k_is)
    (case ml_BesideRule_init => k_is)
    (case mc_BesideRule_init => k_is)
    (case mk_BesideRule_init => k_is)
    (case mf_BesideRule_init => k_is)
    (case ma_BesideRule_parts => k_is)
    (case ml_BesideRule_parts => k_is)
    (case mc_BesideRule_parts => k_is)
    (case mk_BesideRule_parts => k_is)
    (case mf_BesideRule_parts => k_is)
    (case ma_BesideRule_told => k_is)
    (case ml_BesideRule_told => k_is)
    (case mc_BesideRule_told => k_is)
    (case mk_BesideRule_told => k_is)
    (case mf_BesideRule_told => k_is)
    (case ma_BesideRule_begun => k_is)
    (case na_AboveRule_one => k_is)
    (case na_AboveRule_other => k_is)
    (case na_AboveRule_name => k_is)
    (case na_AboveRule_cost => k_is)
    (case ma_AboveRule_init => k_is)
    (case ml_AboveRule_init => k_is)
    (case mc_AboveRule_init => k_is)
    (case mk_AboveRule_init => k_is)
    (case mf_AboveRule_init => k_is)
    (case ma_AboveRule_parts => k_is)
    (case ml_AboveRule_parts => k_is)
    (case mc_AboveRule_parts => k_is)
    (case mk_AboveRule_parts => k_is)
    (case mf_AboveRule_parts => k_is)
    (case ma_AboveRule_told => k_is)
    (case ml_AboveRule_told => k_is)
    (case mc_AboveRule_told => k_is)
    (case mk_AboveRule_told => k_is)
    (case mf_AboveRule_told => k_is)
    (case ma_AboveRule_begun => k_is)
    (case na_TurnRule_part => k_is)
    (case na_TurnRule_turning => k_is)
    (case na_TurnRule_name => k_is)
    (case na_TurnRule_cost => k_is)
    (case ma_TurnRule_init => k_is)
    (case ml_TurnRule_init => k_is)
    (case mc_TurnRule_init => k_is)
    (case mk_TurnRule_init => k_is)
    (case mf_TurnRule_init => k_is)
    (case ma_TurnRule_parts => k_is)
    (case ml_TurnRule_parts => k_is)
    (case mc_TurnRule_parts => k_is)
    (case mk_TurnRule_parts => k_is)
    (case mf_TurnRule_parts => k_is)
    (case ma_TurnRule_told => k_is)
    (case ml_TurnRule_told => k_is)
    (case mc_TurnRule_told => k_is)
    (case mk_TurnRule_told => k_is)
    (case mf_TurnRule_told => k_is)
    (case ma_TurnRule_begun => k_is)
    (case na_Grammar_signs => k_is)
    (case na_Grammar_start => k_is)
    (case na_Grammar_kept_rules => k_is)
    (case na_Grammar_kept_names => k_is)
    (case ma_Grammar_init => k_is)
    (case ml_Grammar_init => k_is)
    (case mc_Grammar_init => k_is)
    (case mk_Grammar_init => k_is)
    (case mf_Grammar_init => k_is)
    (case ma_Grammar_many => k_is)
    (case ml_Grammar_many => k_is)
    (case mc_Grammar_many => k_is)
    (case mk_Grammar_many => k_is)
    (case mf_Grammar_many => k_is)
    (case ma_Grammar_told => k_is)
    (case ml_Grammar_told => k_is)
    (case mc_Grammar_told => k_is)
    (case mk_Grammar_told => k_is)
    (case mf_Grammar_told => k_is)
    (case ia_Rule => k_is)
    (case ib_Rule => k_is)
    (case ic_Rule => k_is)
    (case ou_CellRule_CellRule => k_is)
    (case ou_CellRule_Grammar => k_is)
    (case ov_CellRule_Grammar => decide)
    (case ou_BesideRule_CellRule => k_is)
    (case ov_BesideRule_CellRule => decide)
    (case ou_BesideRule_Grammar => k_is)
    (case ov_BesideRule_Grammar => decide)
    (case ou_AboveRule_CellRule => k_is)
    (case ov_AboveRule_CellRule => decide)
    (case ou_AboveRule_Grammar => k_is)
    (case ov_AboveRule_Grammar => decide)
    (case ou_TurnRule_CellRule => k_is)
    (case ov_TurnRule_CellRule => decide)
    (case ou_TurnRule_Grammar => k_is)
    (case ov_TurnRule_Grammar => decide)
    (case ou_Grammar_CellRule => k_is)
    (case ov_Grammar_CellRule => decide)
    (case ou_Grammar_Grammar => k_is)
    (case a_wall => k_is)
    (case l_wall => k_is)
    (case c_wall => k_is)
    (case k_wall => k_is)
    (case a_beside => k_is)
    (case l_beside => k_is)
    (case c_beside => k_is)
    (case k_beside => k_is)
    (case a_above => k_is)
    (case l_above => k_is)
    (case c_above => k_is)
    (case k_above => k_is)
    (case a_quarter => k_is)
    (case l_quarter => k_is)
    (case c_quarter => k_is)
    (case k_quarter => k_is)
    (case a_mirrored => k_is)
    (case l_mirrored => k_is)
    (case c_mirrored => k_is)
    (case k_mirrored => k_is)
    (case a_turned => k_is)
    (case l_turned => k_is)
    (case c_turned => k_is)
    (case k_turned => k_is)
    (case a_after => k_is)
    (case l_after => k_is)
    (case c_after => k_is)
    (case k_after => k_is)
    (case a_back => k_is)
    (case l_back => k_is)
    (case c_back => k_is)
    (case k_back => k_is)
    (case a_is_name => k_is)
    (case l_is_name => k_is)
    (case c_is_name => k_is)
    (case k_is_name => k_is)
    (case a_asked_name => k_is)
    (case l_asked_name => k_is)
    (case c_asked_name => k_is)
    (case k_asked_name => k_is)
    (case a_turned_pair => k_is)
    (case l_turned_pair => k_is)
    (case c_turned_pair => k_is)
    (case k_turned_pair => k_is)
    (case a_are_signs => k_is)
    (case l_are_signs => k_is)
    (case c_are_signs => k_is)
    (case k_are_signs => k_is)
    (case a_names_met => k_is)
    (case l_names_met => k_is)
    (case c_names_met => k_is)
    (case k_names_met => k_is)
    (case a_asked_rules => k_is)
    (case l_asked_rules => k_is)
    (case c_asked_rules => k_is)
    (case k_asked_rules => k_is)
    (case a_number_in => k_is)
    (case l_number_in => k_is)
    (case c_number_in => k_is)
    (case k_number_in => k_is)
    (case a_read_rule => k_is)
    (case l_read_rule => k_is)
    (case c_read_rule => k_is)
    (case k_read_rule => k_is)
    (case a_read_row => k_is)
    (case l_read_row => k_is)
    (case c_read_row => k_is)
    (case k_read_row => k_is)
    (case a_read_grammar => k_is)
    (case l_read_grammar => k_is)
    (case c_read_grammar => k_is)
    (case k_read_grammar => k_is)
    (case a_law_mix => k_is)
    (case l_law_mix => k_is)
    (case c_law_mix => k_is)
    (case k_law_mix => k_is)
    (case a_law_cell => k_is)
    (case l_law_cell => k_is)
    (case c_law_cell => k_is)
    (case k_law_cell => k_is)
    (case a_law_whole => k_is)
    (case l_law_whole => k_is)
    (case c_law_whole => k_is)
    (case k_law_whole => k_is)
    (case a_law_pool => k_is)
    (case l_law_pool => k_is)
    (case c_law_pool => k_is)
    (case k_law_pool => k_is)
    (case a_law_signs => k_is)
    (case l_law_signs => k_is)
    (case c_law_signs => k_is)
    (case k_law_signs => k_is)
    (case a_law_row => k_is)
    (case l_law_row => k_is)
    (case c_law_row => k_is)
    (case k_law_row => k_is)
    (case a_law_spoilt => k_is)
    (case l_law_spoilt => k_is)
    (case c_law_spoilt => k_is)
    (case k_law_spoilt => k_is)
    (case a_law_is_name => k_is)
    (case l_law_is_name => k_is)
    (case c_law_is_name => k_is)
    (case k_law_is_name => k_is)
    (case a_law_parts => k_is)
    (case l_law_parts => k_is)
    (case c_law_parts => k_is)
    (case k_law_parts => k_is)
    (case a_law_bad_row => k_is)
    (case l_law_bad_row => k_is)
    (case c_law_bad_row => k_is)
    (case k_law_bad_row => k_is)
    (case a_law_fault => k_is)
    (case l_law_fault => k_is)
    (case c_law_fault => k_is)
    (case k_law_fault => k_is)
    (case a_law_read => k_is)
    (case l_law_read => k_is)
    (case c_law_read => k_is)
    (case k_law_read => k_is)
    (case a_law => k_is)
    (case l_law => k_is)
    (case c_law => k_is)
    (case k_law => k_is)
